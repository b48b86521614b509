import PyProof.Rows.All
import Wide.All
import OpenK.AllK
import Wide.FinOn
import HandS.ForMost
import HandS.TryOnly
import HandS.ExcOwn
import HandS.WordsExc
import HandS.EndBits
import HandS.IsInst
import HandS.Style
import HandS.TupAny
import HandS.TupMul
import HandS.Strs
import HandS.Wide
import HandS.SortInts
import HandS.SetFor
import HandS.Zip
import HandS.Codes
import HandS.Deep
import HandS.Flow
import HandS.ExcCtx
import KE.GoesMore
import KE.GoesEnum
import HandS.HotCalls
import HandS.CallLocal
import HandS.ExcIs
import HandS.Head0
import HandS.Head1
import HandS.Head2
import HandS.HeadHook1
import HandS.Conv
import KE.SortData
import PySem.Challenge.RW_dedupgate_k17_telling_logs_by_search
/-! ## DG0 -/
set_option Elab.async false
set_option linter.all false
set_option maxRecDepth 100000
set_option maxHeartbeats 4000000
/-! # A layer of plain data over the heap: what an expression, a statement, a def yields, told by a predicate transformer over plain data -/
namespace DG
open PySem PySem.Spec PyProof.Rows L2

/-! ### the transformer -/
abbrev Exn := Str
def W (α : Type) : Type := (α → Prop) → (Exn → Prop) → Prop
instance : Monad W where
  pure a := fun Q _ => Q a
  bind m k := fun Q E => m (fun a => k a Q E) E
instance : LawfulMonad W := LawfulMonad.mk' (m := W) (fun _ => rfl) (fun _ _ => rfl) (fun _ _ _ => rfl)
def stuck {α : Type} : W α := fun _ _ => False
def throwW {α : Type} (x : Exn) : W α := fun _ E => E x
def need {α : Type} (p : Prop) (m : W α) : W α := fun Q E => p ∧ m Q E
def anyW {α : Type} (p : α → Prop) : W α := fun Q _ => ∀ a, p a → Q a
theorem need_of {α : Type} {p : Prop} {m : W α} (h : p) : need p m = m := by
  funext Q E
  exact propext ⟨fun x => x.2, fun x => ⟨h, x⟩⟩
theorem bind_run {α β : Type} (m : W α) (k : α → W β) (Q : β → Prop) (E : Exn → Prop) : (m >>= k) Q E = m (fun a => k a Q E) E := rfl
theorem pure_run {α : Type} (a : α) (Q : α → Prop) (E : Exn → Prop) : (pure a : W α) Q E = Q a := rfl
theorem need_run {α : Type} (p : Prop) (m : W α) (Q : α → Prop) (E : Exn → Prop) : need p m Q E = (p ∧ m Q E) := rfl
theorem stuck_run {α : Type} (Q : α → Prop) (E : Exn → Prop) : (stuck : W α) Q E = False := rfl
theorem throw_run {α : Type} (x : Exn) (Q : α → Prop) (E : Exn → Prop) : (throwW x : W α) Q E = E x := rfl

/-! ### data -/
inductive D where
  | non | bl (b : Bool) | int (i : Int) | str (x : Str) | tup (ds : List D) | pr (ds : List D) | lst (ds : List D) | fn (a : Addr) | bag | scr (ns : List Int)
instance : Inhabited D := ⟨.non⟩

/-- the bag at a: two items, the draws and a count -/
def BagOk (M : Addr → Prop) (H : Hp) (a : Addr) : Prop :=
  ∃ q c, ∃ ds : List Int, H a = some (.lst [.ref q, .int c]) ∧ ¬ M q ∧ H q = some (.lst (ds.map V.int)) ∧ ds.length = 400 ∧ (∀ d ∈ ds, 0 ≤ d ∧ d < 1000) ∧ 0 ≤ c

/-- a tuple without a dict of its own -/
def SqN (K : PySem.W.Frag) (H : Hp) (a : Addr) (vs : List V) : Prop :=
  (∃ o, H a = some (.frz o (.tup vs)) ∧ o.dict = none) ∨ ∃ (o : Obj) (its : Array Value) (n : Nat), K.lookup a = some o ∧ o.cls = .type "tuple" ∧ o.dict = none ∧ o.data = .seq its n ∧ its.size ≤ sizeLine ∧ Vals vs its.toList
theorem SqN.sqT {K : PySem.W.Frag} {H : Hp} {a : Addr} {vs : List V} (h : SqN K H a vs) : SqT K H a vs := by
  rcases h with ⟨o, h, _⟩ | ⟨o, its, n, h1, h2, h3, h4⟩
  · exact .inl (.inr ⟨o, h⟩)
  · exact .inr ⟨o, its, n, h1, h2, h4⟩
mutual
def Is (K : PySem.W.Frag) (M B : Addr → Prop) (H : Hp) : D → V → Prop
  | .non, v => v = .non
  | .bl b, v => v = .bl b
  | .int i, v => v = .int i
  | .str x, v => v = .str x
  | .tup ds, v => ∃ a vs, v = .ref a ∧ SqN K H a vs ∧ IsL K M B H ds vs
  | .pr ds, v => ∃ a vs, v = .ref a ∧ SqT K H a vs ∧ IsL K M B H ds vs
  | .lst ds, v => ∃ a vs, v = .ref a ∧ ¬ M a ∧ H a = some (.lst vs) ∧ IsL K M B H ds vs
  | .fn a, v => v = .ref a
  | .bag, v => ∃ a, v = .ref a ∧ B a
  | .scr ns, v => ∃ a, v = .ref a ∧ ((∃ o, H a = some (.frz o (.lst (ns.map V.int)))) ∨ SqL K (fun _ => none) a (ns.map V.int))
def IsL (K : PySem.W.Frag) (M B : Addr → Prop) (H : Hp) : List D → List V → Prop
  | [], vs => vs = []
  | d :: ds, vs => ∃ v r, vs = v :: r ∧ Is K M B H d v ∧ IsL K M B H ds r
end

/-! ### heaps -/
/-- what never changes -/
def Imm (o : HO) : Prop := (∃ xs, o = .tup xs) ∨ ∃ ob u, o = .frz ob u
/-- all that is tracked, but the bags' counts, is kept -/
structure Ext (B : Addr → Prop) (H H' : Hp) : Prop where
  k : ∀ a o, H a = some o → ¬ B a → H' a = some o
  b : ∀ a q c, B a → H a = some (.lst [.ref q, .int c]) → 0 ≤ c → ∃ c', 0 ≤ c' ∧ H' a = some (.lst [.ref q, .int c'])
structure Ok (Mb M B : Addr → Prop) (H : Hp) : Prop where
  bm : ∀ a, B a → Mb a
  mm : ∀ a, Mb a → M a
  tr : ∀ a, M a → ∃ o, H a = some o ∧ ¬ Imm o
  bg : ∀ a, B a → BagOk M H a
structure Go (Mb M B : Addr → Prop) (H H' : Hp) : Prop where
  ext : Ext B H H'
  ok : Ok Mb M B H'
/-- the frozen cells are kept -/
structure Kept (M M' : Addr → Prop) (H H' : Hp) : Prop where
  ls : ∀ a xs, ¬ M a → H a = some (.lst xs) → ¬ M' a ∧ H' a = some (.lst xs)
  im : ∀ a o, Imm o → H a = some o → H' a = some o

section
variable {K : PySem.W.Frag} {Mb M M' M2 B B' : Addr → Prop} {H H' H1 H2 : Hp}
theorem Ext.refl : Ext B H H := ⟨fun _ _ h _ => h, fun _ _ c _ h n => ⟨c, n, h⟩⟩
theorem Ext.trans (a : Ext B H H1) (b : Ext B H1 H2) : Ext B H H2 := ⟨fun x o h n => b.k x o (a.k x o h n) n, fun x q c i h n => let ⟨c1, n1, h1⟩ := a.b x q c i h n; b.b x q c1 i h1 n1⟩
theorem Go.refl (o : Ok Mb M B H) : Go Mb M B H H := ⟨.refl, o⟩
theorem Go.trans (a : Go Mb M B H H1) (b : Go Mb M B H1 H2) : Go Mb M B H H2 := ⟨a.ext.trans b.ext, b.ok⟩
theorem Kept.refl : Kept M M H H := ⟨fun _ _ n h => ⟨n, h⟩, fun _ _ _ h => h⟩
theorem Kept.trans (a : Kept M M' H H1) (b : Kept M' M2 H1 H2) : Kept M M2 H H2 := ⟨fun x xs n h => let ⟨n1, h1⟩ := a.ls x xs n h; b.ls x xs n1 h1, fun x o i h => b.im x o i (a.im x o i h)⟩
theorem Ext.of_same (h : Same H H') : Ext B H H' := ⟨fun a o e _ => h a o e, fun a q c _ e n => ⟨c, n, h _ _ e⟩⟩
theorem Ok.nm (o : Ok Mb M B H) {a : Addr} (h : H a = none) : ¬ M a := fun m => by
  obtain ⟨u, e, _⟩ := o.tr a m
  rw [h] at e
  cases e
theorem Ok.nb (o : Ok Mb M B H) {a : Addr} (h : ¬ M a) : ¬ B a := fun b => h (o.mm a (o.bm a b))
theorem Ok.nmb (o : Ok Mb M B H) {a : Addr} (h : ¬ M a) : ¬ Mb a := fun b => h (o.mm a b)
theorem Ok.nmI (o : Ok Mb M B H) {a : Addr} {u : HO} (h : H a = some u) (i : Imm u) : ¬ M a := fun m => by
  obtain ⟨w, e, n⟩ := o.tr a m
  rw [h] at e
  cases e
  exact n i
theorem Go.kept (g : Go Mb M B H H') (o : Ok Mb M B H) : Kept M M H H' := ⟨fun a xs n h => ⟨n, g.ext.k a _ h (o.nb n)⟩, fun a u i h => g.ext.k a u h (o.nb (o.nmI h i))⟩
theorem Kept.less (hm : ∀ a, M' a → M a) : Kept M M' H H := ⟨fun _ _ n h => ⟨fun m => n (hm _ m), h⟩, fun _ _ _ h => h⟩
theorem not_imm_lst {xs : List V} : ¬ Imm (.lst xs) := fun h => by
  rcases h with ⟨_, e⟩ | ⟨_, _, e⟩ <;> cases e
theorem not_imm_dK {xs : List (Key × V)} : ¬ Imm (.dK xs) := fun h => by
  rcases h with ⟨_, e⟩ | ⟨_, _, e⟩ <;> cases e
theorem imm_tup {xs : List V} : Imm (.tup xs) := .inl ⟨_, rfl⟩
theorem imm_frz {ob : Obj} {u : HO} : Imm (.frz ob u) := .inr ⟨_, _, rfl⟩
theorem Kept.sqT (k : Kept M M' H H') {a : Addr} {xs : List V} (h : SqT K H a xs) : SqT K H' a xs := by
  rcases h with (h | ⟨o, h⟩) | h
  · exact .inl (.inl (k.im _ _ imm_tup h))
  · exact .inl (.inr ⟨o, k.im _ _ imm_frz h⟩)
  · exact .inr h
theorem Kept.sqN (k : Kept M M' H H') {a : Addr} {xs : List V} (h : SqN K H a xs) : SqN K H' a xs := by
  rcases h with ⟨o, h, n⟩ | h
  · exact .inl ⟨o, k.im _ _ imm_frz h, n⟩
  · exact .inr h
mutual
/-- what is told stays told where the told cells stay -/
theorem Is.keep (k : Kept M M' H H') (hb : ∀ a, B a → B' a) : ∀ (d : D) (v : V), Is K M B H d v → Is K M' B' H' d v
  | .non, _, h => h
  | .bl _, _, h => h
  | .int _, _, h => h
  | .str _, _, h => h
  | .tup ds, _, ⟨a, vs, e, s, l⟩ => ⟨a, vs, e, k.sqN s, IsL.keep k hb ds vs l⟩
  | .pr ds, _, ⟨a, vs, e, s, l⟩ => ⟨a, vs, e, k.sqT s, IsL.keep k hb ds vs l⟩
  | .lst ds, _, ⟨a, vs, e, n, s, l⟩ => ⟨a, vs, e, (k.ls a vs n s).1, (k.ls a vs n s).2, IsL.keep k hb ds vs l⟩
  | .fn _, _, h => h
  | .bag, _, ⟨a, e, b⟩ => ⟨a, e, hb a b⟩
  | .scr ns, _, ⟨a, e, s⟩ => ⟨a, e, by
      rcases s with ⟨o, h⟩ | h
      · exact .inl ⟨o, k.im _ _ imm_frz h⟩
      · exact .inr h⟩
theorem IsL.keep (k : Kept M M' H H') (hb : ∀ a, B a → B' a) : ∀ (ds : List D) (vs : List V), IsL K M B H ds vs → IsL K M' B' H' ds vs
  | [], _, h => h
  | d :: ds, _, ⟨v, r, e, h1, h2⟩ => ⟨v, r, e, Is.keep k hb d v h1, IsL.keep k hb ds r h2⟩
end
theorem Is.mono (g : Ext B H H') (o : Ok Mb M B H) {d : D} {v : V} (h : Is K M B H d v) : Is K M B H' d v := Is.keep (⟨fun a xs n h => ⟨n, g.k a _ h (o.nb n)⟩, fun a u i h => g.k a u h (o.nb (o.nmI h i))⟩ : Kept M M H H') (fun _ b => b) d v h
theorem IsL.mono (g : Ext B H H') (o : Ok Mb M B H) {d : List D} {v : List V} (h : IsL K M B H d v) : IsL K M B H' d v := IsL.keep ⟨fun a xs n h => ⟨n, g.k a _ h (o.nb n)⟩, fun a u i h => g.k a u h (o.nb (o.nmI h i))⟩ (fun _ b => b) d v h
theorem Is.less (hm : ∀ a, M' a → M a) {d : D} {v : V} (h : Is K M B H d v) : Is K M' B H d v := Is.keep (Kept.less hm) (fun _ b => b) d v h
theorem IsL.less (hm : ∀ a, M' a → M a) {d : List D} {v : List V} (h : IsL K M B H d v) : IsL K M' B H d v := IsL.keep (Kept.less hm) (fun _ b => b) d v h
theorem IsL.len : ∀ {ds : List D} {vs : List V}, IsL K M B H ds vs → vs.length = ds.length
  | [], _, h => by rw [h]; rfl
  | d :: ds, _, ⟨v, r, e, _, h2⟩ => by rw [e, List.length_cons, List.length_cons, IsL.len h2]
theorem IsL.get : ∀ {ds : List D} {vs : List V} {i : Nat} {d : D}, IsL K M B H ds vs → ds[i]? = some d → ∃ v, vs[i]? = some v ∧ Is K M B H d v
  | d :: ds, _, 0, _, ⟨v, r, e, h1, _⟩, g => by
    subst e
    cases g
    exact ⟨v, rfl, h1⟩
  | d :: ds, _, i + 1, x, ⟨v, r, e, _, h2⟩, g => by
    subst e
    obtain ⟨w, e1, e2⟩ := IsL.get (i := i) h2 (by simpa using g)
    exact ⟨w, by simpa using e1, e2⟩
  | [], _, _, _, _, g => by simp at g
theorem IsL.get' {ds : List D} {vs : List V} {i : Nat} {v : V} (h : IsL K M B H ds vs) (g : vs[i]? = some v) : ∃ d, ds[i]? = some d ∧ Is K M B H d v := by
  have l := h.len
  have hi : i < vs.length := (List.getElem?_eq_some_iff.mp g).1
  have hj : i < ds.length := by omega
  obtain ⟨w, e1, e2⟩ := h.get (List.getElem?_eq_getElem hj)
  rw [g] at e1
  cases e1
  exact ⟨_, List.getElem?_eq_getElem hj, e2⟩
theorem IsL.append : ∀ {ds es : List D} {vs ws : List V}, IsL K M B H ds vs → IsL K M B H es ws → IsL K M B H (ds ++ es) (vs ++ ws)
  | [], _, _, _, h, k => by
    rw [h]
    exact k
  | d :: ds, _, _, _, ⟨v, r, e, h1, h2⟩, k => ⟨v, r ++ _, by rw [e]; rfl, h1, IsL.append h2 k⟩
theorem IsL.one {d : D} {v : V} (h : Is K M B H d v) : IsL K M B H [d] [v] := ⟨v, [], rfl, h, rfl⟩
theorem IsL.take : ∀ {ds : List D} {vs : List V} (n : Nat), IsL K M B H ds vs → IsL K M B H (ds.take n) (vs.take n)
  | ds, vs, 0, _ => by rw [List.take_zero, List.take_zero]; rfl
  | [], _, n + 1, h => by rw [h]; rfl
  | d :: ds, _, n + 1, ⟨v, r, e, h1, h2⟩ => by rw [e]; exact ⟨v, r.take n, rfl, h1, IsL.take n h2⟩
theorem IsL.drop : ∀ {ds : List D} {vs : List V} (n : Nat), IsL K M B H ds vs → IsL K M B H (ds.drop n) (vs.drop n)
  | ds, vs, 0, h => h
  | [], _, n + 1, h => by rw [h]; rfl
  | d :: ds, _, n + 1, ⟨v, r, e, h1, h2⟩ => by rw [e]; exact IsL.drop n h2
theorem IsL.rev : ∀ {ds : List D} {vs : List V}, IsL K M B H ds vs → IsL K M B H ds.reverse vs.reverse
  | [], _, h => by rw [h]; rfl
  | d :: ds, _, ⟨v, r, e, h1, h2⟩ => by
    rw [e, List.reverse_cons, List.reverse_cons]
    exact IsL.append (IsL.rev h2) (.one h1)
theorem IsL.set : ∀ {ds : List D} {vs : List V} (i : Nat) {d : D} {v : V}, IsL K M B H ds vs → Is K M B H d v → IsL K M B H (ds.set i d) (vs.set i v)
  | [], _, _, _, _, h, _ => by rw [h]; rfl
  | d :: ds, _, 0, _, w, ⟨v, r, e, h1, h2⟩, k => by rw [e]; exact ⟨w, r, rfl, k, h2⟩
  | d :: ds, _, i + 1, _, w, ⟨v, r, e, h1, h2⟩, k => by rw [e]; exact ⟨v, r.set i w, rfl, h1, IsL.set i h2 k⟩
theorem IsL.split : ∀ {ds es : List D} {vs : List V}, IsL K M B H (ds ++ es) vs → ∃ xs ys, vs = xs ++ ys ∧ IsL K M B H ds xs ∧ IsL K M B H es ys
  | [], es, vs, h => ⟨[], vs, rfl, rfl, h⟩
  | d :: ds, es, _, ⟨v, r, e, h1, h2⟩ => by
    obtain ⟨xs, ys, e1, h3, h4⟩ := IsL.split h2
    exact ⟨v :: xs, ys, by rw [e, e1]; rfl, ⟨v, xs, rfl, h1, h3⟩, h4⟩
theorem IsL.ints : ∀ {ns : List Int} {vs : List V}, IsL K M B H (ns.map D.int) vs → vs = ns.map V.int
  | [], _, h => h
  | n :: ns, _, ⟨v, r, e, h1, h2⟩ => by
    have h1' : v = .int n := h1
    rw [e, h1', IsL.ints h2]
    rfl
theorem IsL.of_ints : ∀ (ns : List Int), IsL K M B H (ns.map D.int) (ns.map V.int)
  | [] => rfl
  | n :: ns => ⟨.int n, ns.map V.int, rfl, rfl, IsL.of_ints ns⟩
theorem IsL.strs : ∀ {ns : List Str} {vs : List V}, IsL K M B H (ns.map D.str) vs → vs = ns.map V.str
  | [], _, h => h
  | n :: ns, _, ⟨v, r, e, h1, h2⟩ => by
    have h1' : v = .str n := h1
    rw [e, h1', IsL.strs h2]
    rfl
theorem IsL.of_strs : ∀ (ns : List Str), IsL K M B H (ns.map D.str) (ns.map V.str)
  | [] => rfl
  | n :: ns => ⟨.str n, ns.map V.str, rfl, rfl, IsL.of_strs ns⟩
theorem IsL.bools : ∀ {ns : List Bool} {vs : List V}, IsL K M B H (ns.map D.bl) vs → vs = ns.map V.bl
  | [], _, h => h
  | n :: ns, _, ⟨v, r, e, h1, h2⟩ => by
    have h1' : v = .bl n := h1
    rw [e, h1', IsL.bools h2]
    rfl
/-- a new cell -/
theorem Ok.new (o : Ok Mb M B H) {p : Addr} {u : HO} (h : H p = none) : Ok Mb M B (upd H p u) :=
  ⟨o.bm, o.mm, fun a m => by
    have n : a ≠ p := fun e => by
      obtain ⟨w, q, _⟩ := o.tr a m
      rw [e, h] at q
      cases q
    rw [upd_ne n]
    exact o.tr a m, fun a b => by
    obtain ⟨q, c, ds, h1, h2, h3, h4⟩ := o.bg a b
    refine ⟨q, c, ds, ?_, h2, ?_, h4⟩
    · rw [upd_ne (ne_of_none h1 h)]
      exact h1
    · rw [upd_ne (ne_of_none h3 h)]
      exact h3⟩
theorem Ext.new {p : Addr} {u : HO} (h : H p = none) : Ext B H (upd H p u) := Ext.of_same fun a o e => by
  rw [upd_ne (ne_of_none e h)]
  exact e
theorem Ok.ext (o : Ok Mb M B H) (e : Ext B H H') : Ok Mb M B H' :=
  ⟨o.bm, o.mm, fun a m => by
    by_cases b : B a
    · obtain ⟨q, c, ds, h1, _, _, _, _, h6⟩ := o.bg a b
      obtain ⟨c', _, h'⟩ := e.b a q c b h1 h6
      exact ⟨_, h', not_imm_lst⟩
    · obtain ⟨u, h, n⟩ := o.tr a m
      exact ⟨u, e.k a u h b, n⟩, fun a b => by
    obtain ⟨q, c, ds, h1, h2, h3, h4, h5, h6⟩ := o.bg a b
    obtain ⟨c', h7, h'⟩ := e.b a q c b h1 h6
    exact ⟨q, c', ds, h', h2, e.k q _ h3 fun z => h2 (o.mm _ (o.bm _ z)), h4, h5, h7⟩⟩
theorem Ok.down (o : Ok Mb M B H) : Ok Mb Mb B H := ⟨o.bm, fun _ m => m, fun a m => o.tr a (o.mm a m), fun a b => by
  obtain ⟨q, c, ds, h1, h2, h3⟩ := o.bg a b
  exact ⟨q, c, ds, h1, fun z => h2 (o.mm q z), h3⟩⟩
theorem Go.new (o : Ok Mb M B H) {p : Addr} {u : HO} (h : H p = none) : Go Mb M B H (upd H p u) := ⟨Ext.new h, o.new h⟩
end

/-! ### what stands in a slot -/
inductive SV where
  | no
  | d (d : D)
  | own (ds : List D)
  | dct (kvs : List (Key × D))
inductive KIs (K : PySem.W.Frag) (M B : Addr → Prop) (H : Hp) : List (Key × D) → List (Key × V) → Prop
  | nil : KIs K M B H [] []
  | cons {k : Key} {d : D} {v : V} {kvs : List (Key × D)} {vs : List (Key × V)} : Is K M B H d v → KIs K M B H kvs vs → KIs K M B H ((k, d) :: kvs) ((k, v) :: vs)
/-- the address of an own list or dict -/
def SV.isOwn : SV → Bool
  | .own _ => true
  | .dct _ => true
  | _ => false
def SlotIs (K : PySem.W.Frag) (Mb M B : Addr → Prop) (H : Hp) : SV → Option V → Prop
  | .no, _ => True
  | .d d, o => ∃ v, o = some v ∧ Is K M B H d v
  | .own ds, o => ∃ p vs, o = some (.ref p) ∧ M p ∧ ¬ Mb p ∧ H p = some (.lst vs) ∧ IsL K M B H ds vs
  | .dct kvs, o => ∃ p vs, o = some (.ref p) ∧ M p ∧ ¬ Mb p ∧ H p = some (.dK vs) ∧ KIs K M B H kvs vs
structure Rp (K : PySem.W.Frag) (Mb M B : Addr → Prop) (σ : L2.St) (H : Hp) (ρ : List SV) : Prop where
  len : σ.length = ρ.length
  sl : ∀ (i : Nat) (s : SV), ρ[i]? = some s → ∃ o, σ[i]? = some o ∧ SlotIs K Mb M B H s o
  dis : ∀ (i j : Nat) (s t : SV) (p : Addr), ρ[i]? = some s → ρ[j]? = some t → s.isOwn = true → t.isOwn = true → σ[i]? = some (some (.ref p)) → σ[j]? = some (some (.ref p)) → i = j
end DG

/-! ## DGN -/
set_option Elab.async false
set_option linter.all false
set_option maxRecDepth 100000
set_option maxHeartbeats 4000000
namespace DG
open PySem PySem.Spec PyProof.Rows L2

/-! ### new tuples, told as such without a dict -/
/-- the object of a new tuple -/
abbrev tupObj (its : List Value) : Obj := { cls := .type "tuple", data := .seq its.toArray }
section
variable {X : Cx} {pins : List (Addr × Obj)} {σ : L2.St} {H : Hp} {s : Shared} {h' : Heap} {Q : VK}
theorem new_tup {its : List Value} {xs : List V} {t' : Nat} (I : Inv X pins σ H s) (k : ∀ b u, s.heap.get? b = some u → h'.get? b = some u) (r : Vals xs its) (hz : xs.length ≤ sizeLine) {p : Addr} (hp : s.heap.objs.size ≤ p) (e : h'.get? p = some (tupObj its))
    (q : ∀ p (o : Obj), H p = none → o.dict = none → Q (.ref p) (upd H p (.frz o (.tup xs)))) : ∃ x H', Inv X pins σ H' { s with heap := h', toks := t' } ∧ RelV x (.ref p) ∧ Q x H' :=
  ⟨.ref p, upd H p (.frz (tupObj its) (.tup xs)), I.laid (t' := t') k hp (show ObjOk X.prog X.w _ _ _ (.frz (tupObj its) (.tup xs)) from ⟨e, hz, its, r, ⟨_, e, rfl, _, rfl⟩⟩), rfl, q _ _ (I.hok.fresh hp) rfl⟩
def tTupN (t : TA) : TE := fun σ H Q => t σ H fun xs H1 => xs.length ≤ sizeLine ∧ ∀ p (o : Obj), H1 p = none → o.dict = none → Q (.ref p) (upd H1 p (.frz o (.tup xs)))
theorem pe_tupN {es : List Expr} {t : TA} {pos : Pos} {x1} (h : PA X es t) : PE X (.Tuple es x1 pos) (tTupN t) := by
  refine ⟨fun pins s σ H Q I hq => ?_⟩
  refine wpAny_Tuple_spliced (thn (h.run pos pins s σ H _ I hq) fun us s1 ⟨xs, H1, I1, r, z, q⟩ => ⟨by rw [← r.length]; exact z, ?_⟩)
  exact new_tup (t' := s1.toks) I1 (fun b u e => Heap.get?_push_of_some _ e) r z (Nat.le_refl _) (Heap.get?_push_size _ rfl) q
/-- t + u -/
def rCatN (K : PySem.W.Frag) : R2 := fun x y H Q => ∃ a b xs ys, x = .ref a ∧ y = .ref b ∧ SqT K H a xs ∧ SqT K H b ys ∧ xs.length + ys.length ≤ sizeLine ∧
  (xs = [] → Q (.ref b) H) ∧ (xs ≠ [] → ys = [] → Q (.ref a) H) ∧ (xs ≠ [] → ys ≠ [] → ∀ p (o : Obj), H p = none → o.dict = none → Q (.ref p) (upd H p (.frz o (.tup (xs ++ ys)))))
theorem op_catN : OpR X (binaryOp .Add) (rCatN X.K) := by
  intro pins s σ H x y v u Q I rx ry h
  obtain ⟨a, b, xs, ys, rfl, rfl, ha, hb, hz, q0, q1, q2⟩ := h
  cases rx
  cases ry
  obtain ⟨its, r1, p1, _⟩ := I.tuple ha
  obtain ⟨its2, r2, p2, _⟩ := I.tuple hb
  by_cases hx : xs = []
  · subst hx
    cases r1
    exact cat_tup0 p1 p2 ⟨.ref b, H, I, rfl, q0 rfl⟩
  · refine HT.cat_tup p1 p2 (fun z => hx (by cases r1 with | nil => rfl | cons _ _ => simp at z)) (fun z => ?_) (fun z => ?_) (by rw [← r1.length, ← r2.length]; exact hz)
    · refine ⟨.ref a, H, I, rfl, q1 hx ?_⟩
      have l := r2.length
      rw [z] at l
      exact List.eq_nil_of_length_eq_zero l
    · refine new_tup (t' := s.toks) I (fun b u e => Heap.get?_push_of_some _ e) (r1.append r2) (by rw [List.length_append]; exact hz) (Nat.le_refl _) (Heap.get?_push_size _ rfl) (q2 hx fun w => z ?_)
      have l := r2.length
      rw [w] at l
      exact List.eq_nil_of_length_eq_zero l.symm
/-- t[lo:hi] -/
def rSlN (K : PySem.W.Frag) : V → Option Int → Option Int → Hp → VK → Prop := fun x lo hi H Q => ∃ a xs, x = .ref a ∧ SqT K H a xs ∧
  (HT.sIx xs.length 0 lo = 0 ∧ HT.sIx xs.length xs.length hi = xs.length → Q (.ref a) H) ∧ (¬ (HT.sIx xs.length 0 lo = 0 ∧ HT.sIx xs.length xs.length hi = xs.length) → ∀ p (o : Obj), H p = none → o.dict = none → Q (.ref p) (upd H p (.frz o (.tup (cutV xs lo hi)))))
theorem sl_tupN : SlR X (rSlN X.K) := by
  intro pins s σ H x v vl vu lo hi sl Q I rx hs pl pu h
  obtain ⟨a, xs, rfl, hx, q1, q2⟩ := h
  cases rx
  obtain ⟨its, r, ht, hz⟩ := I.tuple hx
  have hlen : its.toArray.size = xs.length := by rw [List.size_toArray]; exact r.length.symm
  refine ⟨"tuple", _, PyProof.Rows.slot_tuple_getitem.lookup, ht.typeIs, ?_⟩
  by_cases hw : HT.sIx xs.length 0 lo = 0 ∧ HT.sIx xs.length xs.length hi = xs.length
  · exact getItem_tuple_whole ht hs pl pu (by rw [hlen]; exact hw) ⟨.ref a, H, I, rfl, q1 hw⟩
  · refine HT.getItem_tuple_cut ht hs pl pu (by rw [hlen]; exact hw) ?_ (by rw [hlen]; exact hz)
    rw [hlen]
    exact new_tup (t' := s.toks) I (fun b u e => Heap.get?_push_of_some _ e) ((r.drop _).take _) (Nat.le_trans (cutV_length xs lo hi) hz) (Nat.le_refl _) (Heap.get?_push_size _ rfl) (q2 hw)
/-- tuple(xs) -/
theorem call_tupleN : CallR X (.type "tuple") (fun xs H Q => ∃ p ys, xs = [.ref p] ∧ ((SqL X.K H p ys ∧ ∀ l (o : Obj), H l = none → o.dict = none → Q (.ref l) (upd H l (.frz o (.tup ys)))) ∨ (SqT X.K H p ys ∧ Q (.ref p) H))) := by
  intro pins s σ H xs us Q I r h
  obtain ⟨p, ys, rfl, h⟩ := h
  obtain ⟨u, rfl, rx⟩ := Vals.one r
  cases rx
  rcases h with ⟨hq, q⟩ | ⟨hq, q⟩
  · obtain ⟨its, r', pl, hz⟩ := I.list hq
    have hlen := r'.length
    refine call_tuple_list pl.isList (fun h' kp => ?_) (by simp only [List.size_toArray] <;> omega)
    have I1 : Inv X pins σ H { s with heap := h' } := I.kept (t' := s.toks) kp
    exact new_tup (t' := s.toks) I1 (fun b o e => Heap.get?_push_of_some _ e) r' hz (Nat.le_refl _) (Heap.get?_push_size _ rfl) q
  · obtain ⟨its, r', pl, hz⟩ := I.tuple hq
    exact call_tuple_same pl ⟨.ref p, H, I, rfl, q⟩
/-- a method of a tuple -/
def tBMn (K : PySem.W.Frag) (r : V → List V → Hp → VK → Prop) (to : TE) (t : TA) : TE := fun σ H Q => to σ H fun x H1 => (∃ a vs, x = .ref a ∧ SqN K H1 a vs) ∧ t σ H1 fun xs H2 => r x xs H2 Q
theorem pe_bmN {o e : Expr} {es : List Expr} {to : TE} {t : TA} {name : Str} {apos cpos : Pos} {id : String} {r : V → List V → Hp → VK → Prop} (slot : Slot "tuple" name id) (hty : typeOf (.builtin id) = pure (.type "method_descriptor")) (hm : MtR X id r) (ho : PE X o to) (ha : PA X (e :: es) t)
    (hbase : attributeBase o name X.env (eval o X.env) = eval o X.env := by rfl)
    (hfew : ((backTo cpos (starEach (e :: es) X.env)).all (fun x => !x.1) && (backToKw cpos (keywordEach [] X.env)).all (fun x => x.1.isSome)
      && decide ((e :: es).length + ([] : List Keyword).length + (if ([] : List Keyword).isEmpty then 0 else 1) < 30)) = true := by rfl)
    (hline : (apos.endLine == cpos.line) = true := by rfl) (hs : starEach (e :: es) X.env = (false, eval e X.env) :: starEach es X.env := by rfl) (hplain : (backTo cpos (starEach es X.env)).any (·.1) = false := by rfl) :
    PE X (.Call (.Attribute o name apos) (e :: es) [] cpos) (tBMn X.K r to t) := by
  refine ⟨fun pins s σ H Q I h => ?_⟩
  refine wpAny_Call_method_late hbase hfew hline rfl (thn (ho.run pins s σ H _ I h) fun v s1 ⟨x, H1, I1, r1, ⟨a, vs, ex, sn⟩, q1⟩ => ?_)
  subst ex
  cases r1
  obtain ⟨its, rv, p, hz⟩ := I1.tuple sn.sqT
  have nd : ∃ ob, s1.heap.get? a = some ob ∧ ob.dict = none := by
    rcases sn with ⟨ob, h1, h2⟩ | ⟨ob, _, _, h1, _, h2, _⟩
    · exact ⟨ob, (show ObjOk X.prog X.w H1 s1.heap a (.frz ob (.tup vs)) from I1.hok a _ h1).1, h2⟩
    · exact ⟨ob, I1.kIn _ _ h1, h2⟩
  refine ⟨"tuple", id, PySem.F.plainAttrs_tuple, slot, hty, p.typeIs, fun b e => ?_, ?_⟩
  · cases e
    exact nd
  have hA := ha.run cpos pins s1 σ H1 _ I1 q1
  rw [hs] at hA ⊢
  refine Calls.callWith_builtin (by show (false || (backTo cpos (starEach es X.env)).any (·.1)) = false; rw [hplain] <;> rfl) (Calls.evalArgs_plain ?_)
  exact thn hA fun us s2 ⟨vs, H2, I2, r2, q2⟩ => hm pins s2 σ H2 (.ref a) vs _ us Q I2 rfl r2 q2
end
end DG

/-! ## DG1 -/
set_option Elab.async false
set_option linter.all false
set_option maxRecDepth 100000
set_option maxHeartbeats 4000000
namespace DG
open PySem PySem.Spec PyProof.Rows L2

/-! ### the widest readings -/
/-- a proposition that is not looked into -/
structure Box (p : Prop) : Prop where
  run : p

def wE (X : Cx) (e : Expr) : TE := fun σ H Q => Box (∀ pins s, Inv X pins σ H s → wpAny (model X.prog X.w) X.A (eval e X.env) (EP X pins σ Q) X.xe s)
def wT (X : Cx) (e : Expr) : TT := fun σ H Q => Box (∀ pins s, Inv X pins σ H s → wpAny (model X.prog X.w) X.A (isTrue e X.env (eval e X.env)) (TP X pins σ Q) X.xe s)
def wV (X : Cx) (e : Expr) : TT := fun σ H Q => Box (∀ (wh : Sem Value) pins s, Inv X pins σ H s → wpAny (model X.prog X.w) X.A (isTrue e X.env wh) (TP X pins σ Q) X.xe s)
def wA (X : Cx) (es : List Expr) : TA := fun σ H Q => Box (∀ (pos : Pos) pins s, Inv X pins σ H s → wpAny (model X.prog X.w) X.A (spliced (backTo pos (starEach es X.env))) (AP X pins σ Q) X.xe s)
section
variable {X : Cx} {e : Expr} {es : List Expr} {σ : L2.St} {H : Hp}
theorem pe_w : PE X e (wE X e) := ⟨fun pins s σ H Q I h => h.run pins s I⟩
theorem pt_w : PT X e (wT X e) := ⟨fun pins s σ H Q I h => h.run pins s I⟩
theorem pw_w : PW X e (wV X e) := ⟨fun wh pins s σ H Q I h => h.run wh pins s I⟩
theorem pa_w : PA X es (wA X es) := ⟨fun pos pins s σ H Q I h => h.run pos pins s I⟩
theorem of_pe {t : TE} {Q : VK} (h : PE X e t) (q : t σ H Q) : wE X e σ H Q := ⟨fun pins s I => h.run pins s σ H Q I q⟩
theorem of_pt {t : TT} {Q : Bool → Hp → Prop} (h : PT X e t) (q : t σ H Q) : wT X e σ H Q := ⟨fun pins s I => h.run pins s σ H Q I q⟩
theorem of_pw {t : TT} {Q : Bool → Hp → Prop} (h : PW X e t) (q : t σ H Q) : wV X e σ H Q := ⟨fun wh pins s I => h.run wh pins s σ H Q I q⟩
theorem of_pa {t : TA} {Q : List V → Hp → Prop} (h : PA X es t) (q : t σ H Q) : wA X es σ H Q := ⟨fun pos pins s I => h.run pos pins s σ H Q I q⟩
end

/-! ### what an expression yields -/
/-- an exception of class x may leave -/
def ExW (X : Cx) (E : XK) (x : Exn) (H : Hp) : Prop := ∀ C, X.mg x = some (.ref C) → E (.ref C) none H
section
variable (X : Cx) (E : XK)
def PostE (Mb M B : Addr → Prop) (H : Hp) (EE : Exn → Prop) : Prop := ∀ x H', EE x → Go Mb M B H H' → ExW X E x H'
def Post (Mb M B : Addr → Prop) (H : Hp) (P : D → Prop) (Q : VK) : Prop := ∀ d v H', P d → Go Mb M B H H' → Is X.K M B H' d v → Q v H'
def PostL (n : Nat) (Mb M B : Addr → Prop) (H : Hp) (P : List D → Prop) (Q : List V → Hp → Prop) : Prop := ∀ d v H', P d → Go Mb M B H H' → IsL X.K M B H' d v → v.length = n → Q v H'
/-- a new list -/
def PostF (Mb M B : Addr → Prop) (H : Hp) (P : List D → Prop) (Q : VK) : Prop := ∀ d p vs H', P d → Go Mb M B H H' → H p = none → H' p = some (.lst vs) → IsL X.K (fun a => M a ∨ a = p) B H' d vs → Q (.ref p) H'
def PostT (Mb M B : Addr → Prop) (H : Hp) (P : Bool → Prop) (Q : Bool → Hp → Prop) : Prop := ∀ d H', P d → Go Mb M B H H' → Q d H'
def EX (e : Expr) (ρ : List SV) (m : W D) : Prop := ∀ Mb M B σ H P EE Q, Ok Mb M B H → Rp X.K Mb M B σ H ρ → m P EE → Post X Mb M B H P Q → PostE X E Mb M B H EE → wE X e σ H Q
/-- .. a new list -/
def EF (e : Expr) (ρ : List SV) (m : W (List D)) : Prop := ∀ Mb M B σ H P EE Q, Ok Mb M B H → Rp X.K Mb M B σ H ρ → m P EE → PostF X Mb M B H P Q → PostE X E Mb M B H EE → wE X e σ H Q
def EA (es : List Expr) (ρ : List SV) (m : W (List D)) : Prop := ∀ Mb M B σ H P EE Q, Ok Mb M B H → Rp X.K Mb M B σ H ρ → m P EE → PostL X es.length Mb M B H P Q → PostE X E Mb M B H EE → wA X es σ H Q
def ET (e : Expr) (ρ : List SV) (m : W Bool) : Prop := ∀ Mb M B σ H P EE Q, Ok Mb M B H → Rp X.K Mb M B σ H ρ → m P EE → PostT Mb M B H P Q → PostE X E Mb M B H EE → wT X e σ H Q
def EV (e : Expr) (ρ : List SV) (m : W Bool) : Prop := ∀ Mb M B σ H P EE Q, Ok Mb M B H → Rp X.K Mb M B σ H ρ → m P EE → PostT Mb M B H P Q → PostE X E Mb M B H EE → wV X e σ H Q
end
section
variable {X : Cx} {E : XK} {Mb M B : Addr → Prop} {H H1 : Hp} {d : D} {v : V} {EE : Exn → Prop} {P : D → Prop} {Q : VK} {ρ : List SV} {σ : L2.St} {e : Expr} {m : W D}
theorem PostE.go (h : PostE X E Mb M B H EE) (g : Go Mb M B H H1) : PostE X E Mb M B H1 EE := fun x H' e g' => h x H' e (g.trans g')
theorem Post.go (h : Post X Mb M B H P Q) (g : Go Mb M B H H1) : Post X Mb M B H1 P Q := fun d v H' e g' i => h d v H' e (g.trans g') i
theorem Post.here (h : Post X Mb M B H P Q) (o : Ok Mb M B H) {d : D} {v : V} (p : P d) (i : Is X.K M B H d v) : Q v H := h d v H p (.refl o) i
theorem PostT.go {P : Bool → Prop} {Q : Bool → Hp → Prop} (h : PostT Mb M B H P Q) (g : Go Mb M B H H1) : PostT Mb M B H1 P Q := fun d H' e g' => h d H' e (g.trans g')
theorem PostL.go {n : Nat} {P : List D → Prop} {Q : List V → Hp → Prop} (h : PostL X n Mb M B H P Q) (g : Go Mb M B H H1) : PostL X n Mb M B H1 P Q := fun d v H' e g' i => h d v H' e (g.trans g') i
theorem Post.new {P : D → Prop} {ds : List D} {vs : List V} (h : Post X Mb M B H P Q) (o : Ok Mb M B H) (p : P (.lst ds)) (i : IsL X.K M B H ds vs) {a : Addr} (n : H a = none) : Q (.ref a) (upd H a (.lst vs)) :=
  h (.lst ds) _ _ p (.new o n) ⟨a, vs, rfl, o.nm n, upd_same, i.mono (Ext.new n) o⟩
theorem Post.newT {P : D → Prop} {ds : List D} {vs : List V} (h : Post X Mb M B H P Q) (o : Ok Mb M B H) (p : P (.tup ds)) (i : IsL X.K M B H ds vs) {a : Addr} {ob : Obj} (n : H a = none) (nd : ob.dict = none) : Q (.ref a) (upd H a (.frz ob (.tup vs))) :=
  h (.tup ds) _ _ p (.new o n) ⟨a, vs, rfl, .inl ⟨ob, upd_same, nd⟩, i.mono (Ext.new n) o⟩
theorem Post.newP {P : D → Prop} {ds : List D} {vs : List V} (h : Post X Mb M B H P Q) (o : Ok Mb M B H) (p : P (.pr ds)) (i : IsL X.K M B H ds vs) {a : Addr} (n : H a = none) : Q (.ref a) (upd H a (.tup vs)) :=
  h (.pr ds) _ _ p (.new o n) ⟨a, vs, rfl, .of upd_same, i.mono (Ext.new n) o⟩
theorem kept_new {p : Addr} {u : HO} (o : Ok Mb M B H) (h : H p = none) : Kept M (fun a => M a ∨ a = p) H (upd H p u) :=
  ⟨fun a xs n e => ⟨fun m => m.elim n fun z => ne_of_none e h z, by rw [upd_ne (ne_of_none e h)]; exact e⟩, fun a w _ e => by rw [upd_ne (ne_of_none e h)]; exact e⟩
theorem PostF.new {P : List D → Prop} {ds : List D} {vs : List V} (h : PostF X Mb M B H P Q) (o : Ok Mb M B H) (p : P ds) (i : IsL X.K M B H ds vs) {a : Addr} (n : H a = none) : Q (.ref a) (upd H a (.lst vs)) :=
  h ds a vs _ p (.new o n) n upd_same (IsL.keep (kept_new o n) (fun _ b => b) ds vs i)
theorem PostF.back {P : List D → Prop} (h : PostF X Mb M B H P Q) (g : Go Mb M B H H1) (hn : ∀ a, H1 a = none → H a = none) : PostF X Mb M B H1 P Q := fun d p vs H' e g' n l i => h d p vs H' e (g.trans g') (hn p n) l i
/-- cells stay tracked -/
theorem Go.free (o : Ok Mb M B H) (g : Go Mb M B H H1) {a : Addr} (n : H1 a = none) : H a = none := by
  cases q : H a with
  | none => rfl
  | some u =>
    by_cases b : B a
    · obtain ⟨w, e, _⟩ := g.ok.tr a (g.ok.mm a (g.ok.bm a b))
      rw [n] at e
      cases e
    · rw [g.ext.k a u q b] at n
      cases n
theorem PostF.go {P : List D → Prop} (h : PostF X Mb M B H P Q) (o : Ok Mb M B H) (g : Go Mb M B H H1) : PostF X Mb M B H1 P Q := h.back g fun _ n => g.free o n
theorem KIs.mono {K : PySem.W.Frag} (g : Ext B H H1) (o : Ok Mb M B H) {kvs : List (Key × D)} {vs : List (Key × V)} (i : KIs K M B H kvs vs) : KIs K M B H1 kvs vs := by
  induction i with
  | nil => exact .nil
  | cons h _ ih => exact .cons (h.mono g o) ih
theorem SlotIs.go {K : PySem.W.Frag} (g : Go Mb M B H H1) (o : Ok Mb M B H) : ∀ {s : SV} {x : Option V}, SlotIs K Mb M B H s x → SlotIs K Mb M B H1 s x
  | .no, _, _ => trivial
  | .d d, _, ⟨v, e, i⟩ => ⟨v, e, i.mono g.ext o⟩
  | .own ds, _, ⟨p, vs, e, m, n, l, i⟩ => ⟨p, vs, e, m, n, g.ext.k _ _ l fun b => n (o.bm p b), i.mono g.ext o⟩
  | .dct kvs, _, ⟨p, vs, e, m, n, l, i⟩ => ⟨p, vs, e, m, n, g.ext.k _ _ l fun b => n (o.bm p b), i.mono g.ext o⟩
theorem Rp.go {K : PySem.W.Frag} (r : Rp K Mb M B σ H ρ) (o : Ok Mb M B H) (g : Go Mb M B H H1) : Rp K Mb M B σ H1 ρ :=
  ⟨r.len, fun i s h => let ⟨x, e, q⟩ := r.sl i s h; ⟨x, e, q.go g o⟩, r.dis⟩
theorem Rp.get {K : PySem.W.Frag} (r : Rp K Mb M B σ H ρ) {i : Nat} {d : D} (h : ρ[i]? = some (.d d)) : ∃ v, σ[i]? = some (some v) ∧ Is K M B H d v := by
  obtain ⟨o, e, v, e2, i⟩ := r.sl i _ h
  exact ⟨v, by rw [e, e2], i⟩

/-! ### names, constants -/
theorem ex_var (i : Nat) {d : D} {x : Str} {pos : Pos} (h : ρ[i]? = some (.d d) := by rfl) (hN : X.N[i]? = some x := by rfl) (hv : Vis X.env.scope x := by first | exact Or.inl rfl | exact Or.inr (Or.inl rfl) | exact Or.inr (Or.inr rfl))
    (hd : (x == ("__debug__" : Str)) = false := by decide) (hcd : (x == ("__classdict__" : Str)) = false := by decide) : EX X E (.Name x pos) ρ (pure d) := by
  intro Mb M B σ H P EE Q o r p q _
  obtain ⟨v, e, i⟩ := r.get h
  exact of_pe (pe_var hN hv hd hcd) ⟨v, e, q.here o p i⟩
theorem ex_int {i : Int} {j : Nat} {pos : Pos} : EX X E (.Constant (.int i) j pos) ρ (pure (.int i)) := fun Mb M B σ H P EE Q o r p q _ => of_pe pe_int (q.here o p (show Is X.K M B H (.int i) (.int i) from rfl))
theorem ex_bl {b : Bool} {j : Nat} {pos : Pos} : EX X E (.Constant (.bool b) j pos) ρ (pure (.bl b)) := fun Mb M B σ H P EE Q o r p q _ => of_pe pe_bl (q.here o p (show Is X.K M B H (.bl b) (.bl b) from rfl))
theorem ex_non {j : Nat} {pos : Pos} : EX X E (.Constant .none j pos) ρ (pure .non) := fun Mb M B σ H P EE Q o r p q _ => of_pe pe_non (q.here o p (show Is X.K M B H .non .non from rfl))
theorem ex_str {x : Str} {j : Nat} {pos : Pos} : EX X E (.Constant (.str x) j pos) ρ (pure (.str x)) := fun Mb M B σ H P EE Q o r p q _ => of_pe pe_str (q.here o p (show Is X.K M B H (.str x) (.str x) from rfl))
/-- a constant of the module: data that stands in the written part -/
def KD (K : PySem.W.Frag) (d : D) (v : V) : Prop := Is K (fun _ => False) (fun _ => False) (fun _ => none) d v
theorem kept_no : Kept (fun _ => False) M (fun _ => none) H := ⟨fun a xs n e => (by cases e), fun a u i e => (by cases e)⟩
theorem KD.is (h : KD X.K d v) : Is X.K M B H d v := Is.keep kept_no (fun _ b => b.elim) d v h
theorem ex_glob {x : Str} {d : D} {v : V} {u : Value} {pos : Pos} (hm : X.mg x = some u) (r : RelV v u) (hk : KD X.K d v) (hg : Gl X x := by rfl) (hd : (x == ("__debug__" : Str)) = false := by decide) : EX X E (.Name x pos) ρ (pure d) := by
  intro Mb M B σ H P EE Q o rp p q _
  exact of_pe (pe_glob hg hm r hd) (q.here o p hk.is)
end
end DG

/-! ## DG2 -/
set_option Elab.async false
set_option linter.all false
set_option maxRecDepth 100000
set_option maxHeartbeats 4000000
namespace DG
open PySem PySem.Spec PyProof.Rows L2

/-! ### plain data as the library's -/
mutual
def D.py : D → PyData
  | .non => .none
  | .bl b => .bool b
  | .int i => .int i
  | .str x => .str x
  | .tup ds => .tuple (pyL ds)
  | .pr _ => .dict []
  | .lst ds => .list (pyL ds)
  | .fn _ => .dict []
  | .bag => .dict []
  | .scr _ => .dict []
def pyL : List D → List PyData
  | [] => []
  | d :: ds => d.py :: pyL ds
end
def D.shp (d : D) : Bool := SeqAt.shaped d.py
def D.eqv (d e : D) : Bool := PyData.eqv d.py e.py
section
variable {K : PySem.W.Frag} {Mb M B : Addr → Prop} {H : Hp}
mutual
theorem dp_of : ∀ (d : D) (v : V), d.py.canLay0 = true → Is K M B H d v → Dp K H v d.py
  | .non, _, _, h => by
    have h' : _ = V.non := h
    rw [h']
    exact .non
  | .bl b, _, _, h => by
    have h' : _ = V.bl b := h
    rw [h']
    exact .bl b
  | .int i, _, _, h => by
    have h' : _ = V.int i := h
    rw [h']
    exact .int i
  | .str x, _, _, h => by
    have h' : _ = V.str x := h
    rw [h']
    exact .str x
  | .tup ds, _, c, ⟨a, vs, e, s, l⟩ => by
    rw [e]
    exact .tup s.sqT (dpL_of ds vs (by simpa [D.py, PyData.canLay0] using c) l)
  | .lst ds, _, c, ⟨a, vs, e, _, s, l⟩ => by
    rw [e]
    exact .lst (.of s) (dpL_of ds vs (by simpa [D.py, PyData.canLay0] using c) l)
  | .pr _, _, c, _ => by simp [D.py, PyData.canLay0] at c
  | .fn _, _, c, _ => by simp [D.py, PyData.canLay0] at c
  | .bag, _, c, _ => by simp [D.py, PyData.canLay0] at c
  | .scr _, _, c, _ => by simp [D.py, PyData.canLay0] at c
theorem dpL_of : ∀ (ds : List D) (vs : List V), PyData.canLayAll0 (pyL ds) = true → IsL K M B H ds vs → DpAll K H vs (pyL ds)
  | [], _, _, h => by
    have h' : _ = ([] : List V) := h
    rw [h']
    exact .nil
  | d :: ds, _, c, ⟨v, r, e, h1, h2⟩ => by
    have c' : d.py.canLay0 = true ∧ PyData.canLayAll0 (pyL ds) = true := by simpa [pyL, PyData.canLayAll0] using c
    rw [e]
    exact .cons (dp_of d v c'.1 h1) (dpL_of ds r c'.2 h2)
end
theorem dp_shp {d : D} {v : V} (h : d.shp = true) (i : Is K M B H d v) : Dp K H v d.py := dp_of d v (SeqAt.canLay_of_shaped h) i
end

/-! ### operators on data -/
def line : Nat := 1000000
theorem line_ok {n : Nat} (h : n ≤ line) : n ≤ sizeLine := Nat.le_trans h (by rw [sizeLine_eq]; decide)
theorem line_lt {n : Nat} (h : n < line) : n < sizeLine := Nat.lt_of_lt_of_le h (by rw [sizeLine_eq]; decide)
def addD : D → D → W D
  | .int a, .int b => pure (.int (a + b))
  | .str a, .str b => need (a.length + b.length ≤ line) (pure (.str (a ++ b)))
  | .lst a, .lst b => need (a.length + b.length ≤ line) (pure (.lst (a ++ b)))
  | .tup a, .tup b => need (a.length + b.length ≤ line) (pure (.tup (a ++ b)))
  | _, _ => stuck
def subD : D → D → W D
  | .int a, .int b => pure (.int (a - b))
  | _, _ => stuck
def mulD : D → D → W D
  | .int a, .int b => need (CMul a b) (pure (.int (a * b)))
  | .lst a, .int k => need (-1000000 ≤ k ∧ k ≤ 1000000 ∧ a.length * k.toNat ≤ line) (pure (.lst (List.replicate k.toNat a).flatten))
  | .tup a, .int k => need (a ≠ [] ∧ 2 ≤ k ∧ k ≤ 1000 ∧ a.length ≤ 1000) (pure (.pr (List.replicate k.toNat a).flatten))
  | _, _ => stuck
def divD : D → D → W D
  | .int a, .int b => need (CDiv a b) (pure (.int (a / b)))
  | _, _ => stuck
def modD : D → D → W D
  | .int a, .int b => need (0 < b) (pure (.int (a % b)))
  | _, _ => stuck
def powD : D → D → W D
  | .int a, .int b => need (CPow a b) (pure (.int (a ^ b.toNat)))
  | _, _ => stuck
def eqD (a b : D) : W D := need (a.shp = true ∧ b.shp = true) (pure (.bl (a.eqv b)))
def neD (a b : D) : W D := need (a.shp = true ∧ b.shp = true) (pure (.bl (!a.eqv b)))
def ltD : D → D → W D
  | .int a, .int b => pure (.bl (decide (a < b)))
  | _, _ => stuck
def leD : D → D → W D
  | .int a, .int b => pure (.bl (decide (a ≤ b)))
  | _, _ => stuck
def gtD : D → D → W D
  | .int a, .int b => pure (.bl (decide (b < a)))
  | _, _ => stuck
def geD : D → D → W D
  | .int a, .int b => pure (.bl (decide (b ≤ a)))
  | _, _ => stuck
def D.flat : D → Bool
  | .non => true
  | .bl _ => true
  | .int _ => true
  | .str _ => true
  | _ => false
def memL (x : D) (ds : List D) : Bool := ds.any fun y => y.eqv x
def inD : D → D → W D
  | x, .lst ds => need (x.flat = true ∧ ds.all D.flat = true) (pure (.bl (memL x ds)))
  | x, .tup ds => need (x.flat = true ∧ ds.all D.flat = true) (pure (.bl (memL x ds)))
  | .str x, .str z => need (x.cps.size = 1) (pure (.bl (decide (x.cps.getD 0 0 ∈ z.cps.toList))))
  | _, _ => stuck
def notInD : D → D → W D
  | x, .lst ds => need (x.flat = true ∧ ds.all D.flat = true) (pure (.bl (!memL x ds)))
  | x, .tup ds => need (x.flat = true ∧ ds.all D.flat = true) (pure (.bl (!memL x ds)))
  | .str x, .str z => need (x.cps.size = 1) (pure (.bl (!decide (x.cps.getD 0 0 ∈ z.cps.toList))))
  | _, _ => stuck
def D.isNon : D → Bool
  | .non => true
  | _ => false
def isD : D → D → W D
  | x, .non => pure (.bl x.isNon)
  | .bl a, .bl b => pure (.bl (decide (a = b)))
  | _, _ => stuck
def isNotD : D → D → W D
  | x, .non => pure (.bl (!x.isNon))
  | .bl a, .bl b => pure (.bl (!decide (a = b)))
  | _, _ => stuck
def negD : D → W D
  | .int a => pure (.int (-a))
  | _ => stuck

/-- a rule by values for a function on data -/
def OpD (X : Cx) (f : Value → Value → Sem Value) (g : D → D → W D) : Prop :=
  ∃ r : R2, OpR X f r ∧ ∀ (Mb M B : Addr → Prop) (H : Hp) (dx dy : D) (vx vy : V) (P : D → Prop) (EE : Exn → Prop) (Q : VK), Ok Mb M B H → Is X.K M B H dx vx → Is X.K M B H dy vy → g dx dy P EE → Post X Mb M B H P Q → r vx vy H Q
section
variable {X : Cx} {E : XK} {ρ : List SV} {a b : Expr} {ma mb : W D} {g : D → D → W D} {pos : Pos} {k : Nat}
theorem ex_bin {op : Operator} (ho : OpD X (binaryOp op) g) (ha : EX X E a ρ ma) (hb : EX X E b ρ mb) : EX X E (.BinOp a op b pos) ρ (do let x ← ma; let y ← mb; g x y) := by
  intro Mb M B σ H P EE Q o rp p q e
  obtain ⟨r, hr, hs⟩ := ho
  refine of_pe (pe_op hr pe_w pe_w) ?_
  refine ha Mb M B σ H (fun x => (do let y ← mb; g x y : W D) P EE) EE _ o rp p (fun x vx H1 px g1 ix => ?_) e
  refine hb Mb M B σ H1 (fun y => g x y P EE) EE _ g1.ok (rp.go o g1) px (fun y vy H2 py g2 iy => ?_) (e.go g1)
  exact hs Mb M B H2 x y vx vy P EE Q g2.ok (ix.mono g2.ext g1.ok) iy py (q.go (g1.trans g2))
theorem ex_cmp {op : CmpOp} (ho : OpD X (compareOp op) g) (ha : EX X E a ρ ma) (hb : EX X E b ρ mb) (hm : behindInMarks op b = false := by first | exact nomark _ | rfl) : EX X E (.Compare a [op] [b] pos) ρ (do let x ← ma; let y ← mb; g x y) := by
  intro Mb M B σ H P EE Q o rp p q e
  obtain ⟨r, hr, hs⟩ := ho
  refine of_pe (pe_cmpR hr pe_w pe_w hm) ?_
  refine ha Mb M B σ H (fun x => (do let y ← mb; g x y : W D) P EE) EE _ o rp p (fun x vx H1 px g1 ix => ?_) e
  refine hb Mb M B σ H1 (fun y => g x y P EE) EE _ g1.ok (rp.go o g1) px (fun y vy H2 py g2 iy => ?_) (e.go g1)
  exact hs Mb M B H2 x y vx vy P EE Q g2.ok (ix.mono g2.ext g1.ok) iy py (q.go (g1.trans g2))
/-- a value as a test -/
def boolD : D → W Bool
  | .bl b => pure b
  | _ => stuck
theorem et_val {e : Expr} {m : W D} (h : EX X E e ρ m) (he : ∀ whole, isTrue e X.env whole = (do let v ← whole; standAt e.pos; holding [v] (truthy v)) := by intro _; rfl) : ET X E e ρ (do let x ← m; boolD x) := by
  intro Mb M B σ H P EE Q o rp p q ee
  refine of_pt (pt_val pe_w he) ?_
  refine h Mb M B σ H (fun x => boolD x P EE) EE _ o rp p (fun x vx H1 px g1 ix => ?_) ee
  cases x with
  | bl c => exact ⟨c, ix, q c H1 px g1⟩
  | _ => exact False.elim px
theorem et_cmp {op : CmpOp} (ho : OpD X (compareOp op) g) (ha : EX X E a ρ ma) (hb : EX X E b ρ mb) (hm : behindInMarks op b = false := by first | exact nomark _ | rfl) : ET X E (.Compare a [op] [b] pos) ρ (do let x ← ma; let y ← mb; let z ← g x y; boolD z) := by
  intro Mb M B σ H P EE Q o rp p q e
  obtain ⟨r, hr, hs⟩ := ho
  refine of_pt (pt_cmpR hr pe_w pe_w hm) ?_
  refine ha Mb M B σ H (fun x => (do let y ← mb; let z ← g x y; boolD z : W Bool) P EE) EE _ o rp p (fun x vx H1 px g1 ix => ?_) e
  refine hb Mb M B σ H1 (fun y => (do let z ← g x y; boolD z : W Bool) P EE) EE _ g1.ok (rp.go o g1) px (fun y vy H2 py g2 iy => ?_) (e.go g1)
  refine hs Mb M B H2 x y vx vy (fun z => boolD z P EE) EE _ g2.ok (ix.mono g2.ext g1.ok) iy py fun z vz H3 pz g3 iz => ?_
  cases z with
  | bl c => exact ⟨c, iz, q c H3 pz (g1.trans (g2.trans g3))⟩
  | _ => exact False.elim pz
/-- a < b < c -/
theorem ex_chain {op op' : CmpOp} {g' : D → D → W D} {c : Expr} {mc : W D} (ho : OpD X (compareOp op) g) (ho' : OpD X (compareOp op') g') (ha : EX X E a ρ ma) (hb : EX X E b ρ mb) (hc : EX X E c ρ mc)
    (h1 : lastMarks [op, op'] [b, c] = false := by rfl) :
    EX X E (.Compare a [op, op'] [b, c] pos) ρ (do let x ← ma; let y ← mb; let t ← g x y; let s ← boolD t; if s then (do let z ← mc; g' y z) else pure (.bl false)) := by
  intro Mb M B σ H P EE Q o rp p q e
  obtain ⟨r, hr, hs⟩ := ho
  obtain ⟨r', hr', hs'⟩ := ho'
  refine of_pe (pe_chain hr hr' pe_w pe_w pe_w h1) ?_
  refine ha Mb M B σ H (fun x => (do let y ← mb; let t ← g x y; let s ← boolD t; if s then (do let z ← mc; g' y z) else pure (.bl false) : W D) P EE) EE _ o rp p (fun x vx H1 px g1 ix => ?_) e
  refine hb Mb M B σ H1 (fun y => (do let t ← g x y; let s ← boolD t; if s then (do let z ← mc; g' y z) else pure (.bl false) : W D) P EE) EE _ g1.ok (rp.go o g1) px (fun y vy H2 py g2 iy => ?_) (e.go g1)
  refine hs Mb M B H2 x y vx vy (fun t => (do let s ← boolD t; if s then (do let z ← mc; g' y z) else pure (.bl false) : W D) P EE) EE _ g2.ok (ix.mono g2.ext g1.ok) iy py fun t vt H3 pt g3 it => ?_
  have g13 := g1.trans (g2.trans g3)
  cases t with
  | bl s =>
    refine ⟨s, it, ?_⟩
    cases s with
    | true =>
      show wE X c σ H3 _
      refine hc Mb M B σ H3 (fun z => g' y z P EE) EE _ g3.ok (rp.go o g13) pt (fun z vz H4 pz g4 iz => ?_) (e.go g13)
      exact hs' Mb M B H4 y z vy vz P EE Q g4.ok ((iy.mono g3.ext g2.ok).mono g4.ext g3.ok) iz pz (q.go (g13.trans g4))
    | false =>
      show Q (.bl false) H3
      exact q (.bl false) _ H3 pt g13 rfl
  | _ => exact False.elim pt
theorem et_of_ex {e : Expr} {m : W D} {t : TE} (h : EX X E e ρ m) (he : PT X e (tTest (wE X e))) : ET X E e ρ (do let x ← m; boolD x) := by
  intro Mb M B σ H P EE Q o rp p q ee
  refine of_pt he ?_
  refine h Mb M B σ H (fun x => boolD x P EE) EE _ o rp p (fun x vx H1 px g1 ix => ?_) ee
  cases x with
  | bl c => exact ⟨c, ix, q c H1 px g1⟩
  | _ => exact False.elim px
theorem et_chain {op op' : CmpOp} {g' : D → D → W D} {c : Expr} {mc : W D} (ho : OpD X (compareOp op) g) (ho' : OpD X (compareOp op') g') (ha : EX X E a ρ ma) (hb : EX X E b ρ mb) (hc : EX X E c ρ mc)
    (h1 : lastMarks [op, op'] [b, c] = false := by rfl) :
    ET X E (.Compare a [op, op'] [b, c] pos) ρ (do let x ← ma; let y ← mb; let t ← g x y; let s ← boolD t; if s then (do let z ← mc; let u ← g' y z; boolD u) else pure false) := by
  intro Mb M B σ H P EE Q o rp p q e
  obtain ⟨r, hr, hs⟩ := ho
  obtain ⟨r', hr', hs'⟩ := ho'
  refine of_pt (pt_chain hr hr' pe_w pe_w pe_w h1) ?_
  refine ha Mb M B σ H (fun x => (do let y ← mb; let t ← g x y; let s ← boolD t; if s then (do let z ← mc; let u ← g' y z; boolD u) else pure false : W Bool) P EE) EE _ o rp p (fun x vx H1 px g1 ix => ?_) e
  refine hb Mb M B σ H1 (fun y => (do let t ← g x y; let s ← boolD t; if s then (do let z ← mc; let u ← g' y z; boolD u) else pure false : W Bool) P EE) EE _ g1.ok (rp.go o g1) px (fun y vy H2 py g2 iy => ?_) (e.go g1)
  refine hs Mb M B H2 x y vx vy (fun t => (do let s ← boolD t; if s then (do let z ← mc; let u ← g' y z; boolD u) else pure false : W Bool) P EE) EE _ g2.ok (ix.mono g2.ext g1.ok) iy py fun t vt H3 pt g3 it => ?_
  have g13 := g1.trans (g2.trans g3)
  cases t with
  | bl s =>
    refine ⟨s, it, ?_⟩
    cases s with
    | true =>
      show wE X c σ H3 _
      refine hc Mb M B σ H3 (fun z => (do let u ← g' y z; boolD u : W Bool) P EE) EE _ g3.ok (rp.go o g13) pt (fun z vz H4 pz g4 iz => ?_) (e.go g13)
      refine hs' Mb M B H4 y z vy vz (fun u => boolD u P EE) EE _ g4.ok ((iy.mono g3.ext g2.ok).mono g4.ext g3.ok) iz pz fun u vu H5 pu g5 iu => ?_
      cases u with
      | bl w => exact ⟨w, iu, q w H5 pu (g13.trans (g4.trans g5))⟩
      | _ => exact False.elim pu
    | false => exact ⟨false, rfl, q false H3 pt g13⟩
  | _ => exact False.elim pt

/-! ### and, or, not -/
theorem ev_et {e : Expr} {m : W Bool} (h : EV X E e ρ m) : ET X E e ρ m := fun Mb M B σ H P EE Q o rp p q ee => ⟨fun pins s I => (h Mb M B σ H P EE Q o rp p q ee).run _ pins s I⟩
theorem ev_and1 {m : W Bool} (h : ET X E a ρ m) : EV X E (.BoolOp .And [a] pos) ρ m := fun Mb M B σ H P EE Q o rp p q ee => of_pw (pw_and1 pt_w) (h Mb M B σ H P EE Q o rp p q ee)
theorem ev_or1 {m : W Bool} (h : ET X E a ρ m) : EV X E (.BoolOp .Or [a] pos) ρ m := fun Mb M B σ H P EE Q o rp p q ee => of_pw (pw_or1 pt_w) (h Mb M B σ H P EE Q o rp p q ee)
theorem ev_and {m n : W Bool} {rest : List Expr} (h : ET X E a ρ m) (hb : EV X E (.BoolOp .And (b :: rest) pos) ρ n) : EV X E (.BoolOp .And (a :: b :: rest) pos) ρ (do let x ← m; if x then n else pure false) := by
  intro Mb M B σ H P EE Q o rp p q ee
  refine of_pw (pw_and pt_w pw_w) ?_
  refine h Mb M B σ H (fun x => (if x then n else pure false : W Bool) P EE) EE _ o rp p (fun c H1 pc g1 => ?_) ee
  cases c with
  | true => exact hb Mb M B σ H1 P EE Q g1.ok (rp.go o g1) pc (q.go g1) (ee.go g1)
  | false => exact q false H1 pc g1
theorem ev_or {m n : W Bool} {rest : List Expr} (h : ET X E a ρ m) (hb : EV X E (.BoolOp .Or (b :: rest) pos) ρ n) : EV X E (.BoolOp .Or (a :: b :: rest) pos) ρ (do let x ← m; if x then pure true else n) := by
  intro Mb M B σ H P EE Q o rp p q ee
  refine of_pw (pw_or pt_w pw_w) ?_
  refine h Mb M B σ H (fun x => (if x then pure true else n : W Bool) P EE) EE _ o rp p (fun c H1 pc g1 => ?_) ee
  cases c with
  | true => exact q true H1 pc g1
  | false => exact hb Mb M B σ H1 P EE Q g1.ok (rp.go o g1) pc (q.go g1) (ee.go g1)
theorem et_not {m : W Bool} (h : ET X E a ρ m) : ET X E (.UnaryOp .Not a pos) ρ (do let x ← m; pure (!x)) := by
  intro Mb M B σ H P EE Q o rp p q ee
  refine of_pt (pt_not pt_w) ?_
  exact h Mb M B σ H (fun x => P (!x)) EE _ o rp p (fun c H1 pc g1 => q (!c) H1 pc g1) ee
theorem ex_one {op : BoolOp} {m : W D} (h : EX X E a ρ m) : EX X E (.BoolOp op [a] pos) ρ m := fun Mb M B σ H P EE Q o rp p q ee => of_pe (pe_one pe_w) (h Mb M B σ H P EE Q o rp p q ee)
theorem ex_and {m n : W D} {rest : List Expr} (h : EX X E a ρ m) (hb : EX X E (.BoolOp .And (b :: rest) pos) ρ n) : EX X E (.BoolOp .And (a :: b :: rest) pos) ρ (do let x ← m; let c ← boolD x; if c then n else pure (.bl false)) := by
  intro Mb M B σ H P EE Q o rp p q ee
  refine of_pe (pe_and pe_w pe_w) ?_
  refine h Mb M B σ H (fun x => (do let c ← boolD x; if c then n else pure (.bl false) : W D) P EE) EE _ o rp p (fun x vx H1 px g1 ix => ?_) ee
  cases x with
  | bl c =>
    refine ⟨c, ix, ?_⟩
    cases c with
    | true => exact hb Mb M B σ H1 P EE Q g1.ok (rp.go o g1) px (q.go g1) (ee.go g1)
    | false => exact q (.bl false) _ H1 px g1 rfl
  | _ => exact False.elim px
theorem ex_or {m n : W D} {rest : List Expr} (h : EX X E a ρ m) (hb : EX X E (.BoolOp .Or (b :: rest) pos) ρ n) : EX X E (.BoolOp .Or (a :: b :: rest) pos) ρ (do let x ← m; let c ← boolD x; if c then pure (.bl true) else n) := by
  intro Mb M B σ H P EE Q o rp p q ee
  refine of_pe (pe_or pe_w pe_w) ?_
  refine h Mb M B σ H (fun x => (do let c ← boolD x; if c then pure (.bl true) else n : W D) P EE) EE _ o rp p (fun x vx H1 px g1 ix => ?_) ee
  cases x with
  | bl c =>
    refine ⟨c, ix, ?_⟩
    cases c with
    | true => exact q (.bl true) _ H1 px g1 rfl
    | false => exact hb Mb M B σ H1 P EE Q g1.ok (rp.go o g1) px (q.go g1) (ee.go g1)
  | _ => exact False.elim px
theorem ex_not {m : W D} (h : EX X E a ρ m) : EX X E (.UnaryOp .Not a pos) ρ (do let x ← m; let c ← boolD x; pure (.bl (!c))) := by
  intro Mb M B σ H P EE Q o rp p q ee
  refine of_pe (pe_not pe_w) ?_
  refine h Mb M B σ H (fun x => (do let c ← boolD x; pure (.bl (!c)) : W D) P EE) EE _ o rp p (fun x vx H1 px g1 ix => ?_) ee
  cases x with
  | bl c => exact ⟨c, ix, q (.bl (!c)) _ H1 px g1 rfl⟩
  | _ => exact False.elim px
theorem ex_neg {m : W D} (h : EX X E a ρ m) : EX X E (.UnaryOp .USub a pos) ρ (do let x ← m; negD x) := by
  intro Mb M B σ H P EE Q o rp p q ee
  refine of_pe (pe_un un_neg pe_w) ?_
  refine h Mb M B σ H (fun x => negD x P EE) EE _ o rp p (fun x vx H1 px g1 ix => ?_) ee
  cases x with
  | int c => exact ⟨c, ix, q (.int (-c)) _ H1 px g1 rfl⟩
  | _ => exact False.elim px
theorem ex_ife {c : Expr} {mc : W Bool} (hc : ET X E c ρ mc) (ha : EX X E a ρ ma) (hb : EX X E b ρ mb) : EX X E (.IfExp c a b pos) ρ (do let t ← mc; if t then ma else mb) := by
  intro Mb M B σ H P EE Q o rp p q ee
  refine of_pe (pe_ifExp pt_w pe_w pe_w) ?_
  refine hc Mb M B σ H (fun t => (if t then ma else mb : W D) P EE) EE _ o rp p (fun t H1 pt g1 => ?_) ee
  cases t with
  | true => exact ha Mb M B σ H1 P EE Q g1.ok (rp.go o g1) pt (q.go g1) (ee.go g1)
  | false => exact hb Mb M B σ H1 P EE Q g1.ok (rp.go o g1) pt (q.go g1) (ee.go g1)

/-! ### argument lists, displays -/
theorem ea_nil : EA X E [] ρ (pure []) := fun Mb M B σ H P EE Q o rp p q ee => of_pa pa_nil (q [] [] H p (.refl o) rfl rfl)
theorem ea_cons {e : Expr} {es : List Expr} {m : W D} {r : W (List D)} (h : EX X E e ρ m) (hr : EA X E es ρ r) (hs : starEach (e :: es) X.env = (false, eval e X.env) :: starEach es X.env := by rfl) : EA X E (e :: es) ρ (do let x ← m; let xs ← r; pure (x :: xs)) := by
  intro Mb M B σ H P EE Q o rp p q ee
  refine of_pa (pa_cons pe_w pa_w hs) ?_
  refine h Mb M B σ H (fun x => (do let xs ← r; pure (x :: xs) : W (List D)) P EE) EE _ o rp p (fun x vx H1 px g1 ix => ?_) ee
  refine hr Mb M B σ H1 (fun xs => P (x :: xs)) EE _ g1.ok (rp.go o g1) px (fun xs vs H2 pxs g2 il nl => ?_) (ee.go g1)
  exact q (x :: xs) (vx :: vs) H2 pxs (g1.trans g2) ⟨vx, vs, rfl, ix.mono g2.ext g1.ok, il⟩ (by rw [List.length_cons, List.length_cons, nl])
theorem ex_tup {es : List Expr} {x1 : Nat} {m : W (List D)} (h : EA X E es ρ m) (hl : es.length ≤ 1000 := by decide) : EX X E (.Tuple es x1 pos) ρ (do let xs ← m; pure (.tup xs)) := by
  intro Mb M B σ H P EE Q o rp p q ee
  refine of_pe (pe_tupN pa_w) ?_
  refine h Mb M B σ H (fun xs => P (.tup xs)) EE _ o rp p (fun xs vs H1 pxs g1 il nl => ?_) ee
  exact ⟨line_ok (by rw [nl]; exact Nat.le_trans hl (by decide)), fun a ob n nd => (q.go g1).newT g1.ok pxs il n nd⟩
theorem ef_lst {es : List Expr} {m : W (List D)} (h : EA X E es ρ m) (hl : es.length ≤ 1000 := by decide) : EF X E (.List es pos) ρ m := by
  intro Mb M B σ H P EE Q o rp p q ee
  refine of_pe (pe_lst pa_w) ?_
  refine h Mb M B σ H P EE _ o rp p (fun xs vs H1 pxs g1 il nl => ?_) ee
  exact ⟨line_ok (by rw [nl]; exact Nat.le_trans hl (by decide)), fun a n => (q.go o g1).new g1.ok pxs il n⟩
theorem ex_ef {e : Expr} {m : W (List D)} (h : EF X E e ρ m) : EX X E e ρ (do let xs ← m; pure (.lst xs)) := by
  intro Mb M B σ H P EE Q o rp p q ee
  exact h Mb M B σ H (fun xs => P (.lst xs)) EE _ o rp p (fun ds a vs H1 pd g1 n l i => q (.lst ds) _ H1 pd g1 ⟨a, vs, rfl, o.nm n, l, i.less fun _ m => .inl m⟩) ee
end
end DG

/-! ## DG3 -/
set_option Elab.async false
set_option linter.all false
set_option maxRecDepth 100000
set_option maxHeartbeats 4000000
namespace DG
open PySem PySem.Spec PyProof.Rows L2

section
variable {K : PySem.W.Frag} {Mb M B : Addr → Prop} {H : Hp}
theorem flat_V {d : D} {v : V} (i : Is K M B H d v) (f : d.flat = true) : flatV v = true := by
  cases d with
  | non => rw [show v = .non from i]; rfl
  | bl b => rw [show v = .bl b from i]; rfl
  | int b => rw [show v = .int b from i]; rfl
  | str b => rw [show v = .str b from i]; rfl
  | _ => exact absurd (show false = true from f) Bool.false_ne_true
theorem flat_eqV {d e : D} {v w : V} (i : Is K M B H d v) (j : Is K M B H e w) (f : d.flat = true) (g : e.flat = true) : eqV v w = d.eqv e := by
  cases d with
  | non =>
    rw [show v = .non from i]
    cases e with
    | non => rw [show w = .non from j]; rfl
    | bl b => rw [show w = .bl b from j]; rfl
    | int b => rw [show w = .int b from j]; rfl
    | str b => rw [show w = .str b from j]; rfl
    | _ => exact absurd (show false = true from g) Bool.false_ne_true
  | bl b =>
    rw [show v = .bl b from i]
    cases e with
    | non => rw [show w = .non from j]; rfl
    | bl b => rw [show w = .bl b from j]; rfl
    | int b => rw [show w = .int b from j]; rfl
    | str b => rw [show w = .str b from j]; rfl
    | _ => exact absurd (show false = true from g) Bool.false_ne_true
  | int b =>
    rw [show v = .int b from i]
    cases e with
    | non => rw [show w = .non from j]; rfl
    | bl b => rw [show w = .bl b from j]; rfl
    | int b => rw [show w = .int b from j]; rfl
    | str b => rw [show w = .str b from j]; rfl
    | _ => exact absurd (show false = true from g) Bool.false_ne_true
  | str b =>
    rw [show v = .str b from i]
    cases e with
    | non => rw [show w = .non from j]; rfl
    | bl b => rw [show w = .bl b from j]; rfl
    | int b => rw [show w = .int b from j]; rfl
    | str b => rw [show w = .str b from j]; rfl
    | _ => exact absurd (show false = true from g) Bool.false_ne_true
  | _ => exact absurd (show false = true from f) Bool.false_ne_true
theorem flat_all : ∀ {ds : List D} {vs : List V}, IsL K M B H ds vs → ds.all D.flat = true → vs.all flatV = true
  | [], _, h, _ => by rw [show _ = [] from h]; rfl
  | d :: ds, _, ⟨v, r, e, h1, h2⟩, f => by
    rw [List.all_cons, Bool.and_eq_true] at f
    rw [e, List.all_cons, Bool.and_eq_true]
    exact ⟨flat_V h1 f.1, flat_all h2 f.2⟩
theorem flat_in {x : D} {v : V} (i : Is K M B H x v) (fx : x.flat = true) : ∀ {ds : List D} {vs : List V}, IsL K M B H ds vs → ds.all D.flat = true → inV v vs = memL x ds
  | [], _, h, _ => by rw [show _ = [] from h]; rfl
  | d :: ds, _, ⟨w, r, e, h1, h2⟩, f => by
    rw [List.all_cons, Bool.and_eq_true] at f
    have ih := flat_in i fx h2 f.2
    rw [e]
    show (eqV w v || inV v r) = (d.eqv x || memL x ds)
    rw [ih, flat_eqV h1 i f.1 fx]
end

section
variable {X : Cx}
theorem isT {K : PySem.W.Frag} {M B : Addr → Prop} {H : Hp} {ds : List D} {v : V} (h : Is K M B H (.tup ds) v) : ∃ a vs, v = .ref a ∧ SqN K H a vs ∧ IsL K M B H ds vs := h
theorem isLs {K : PySem.W.Frag} {M B : Addr → Prop} {H : Hp} {ds : List D} {v : V} (h : Is K M B H (.lst ds) v) : ∃ a vs, v = .ref a ∧ ¬ M a ∧ H a = some (.lst vs) ∧ IsL K M B H ds vs := h
theorem od_add : OpD X (binaryOp .Add) addD := by
  refine ⟨_, (op_add.or op_add_str).or (op_cat.or op_catN), fun Mb M B H dx dy vx vy P EE Q o ix iy p q => ?_⟩
  cases dx with
  | int a =>
    cases dy with
    | int b => exact .inl (.inl ⟨a, b, ix, iy, q.here o p rfl⟩)
    | _ => exact False.elim p
  | str a =>
    cases dy with
    | str b => exact .inl (.inr ⟨a, b, ix, iy, line_ok p.1, q.here o p.2 rfl⟩)
    | _ => exact False.elim p
  | lst a =>
    cases dy with
    | lst b =>
      obtain ⟨l, vs, e1, n1, h1, i1⟩ := isLs ix
      obtain ⟨l2, ws, e2, n2, h2, i2⟩ := isLs iy
      exact .inr (.inl ⟨l, l2, vs, ws, e1, e2, h1, h2, by rw [i1.len, i2.len]; exact line_ok p.1, fun r n => q.new o p.2 (i1.append i2) n⟩)
    | _ => exact False.elim p
  | tup a =>
    cases dy with
    | tup b =>
      obtain ⟨l, vs, e1, h1, i1⟩ := isT ix
      obtain ⟨l2, ws, e2, h2, i2⟩ := isT iy
      refine .inr (.inr ⟨l, l2, vs, ws, e1, e2, h1.sqT, h2.sqT, by rw [i1.len, i2.len]; exact line_ok p.1, fun z => ?_, fun _ z => ?_, fun _ _ r ob n nd => q.newT o p.2 (i1.append i2) n nd⟩)
      · have : a = [] := List.eq_nil_of_length_eq_zero (by rw [← i1.len, z]; rfl)
        subst this
        exact q.here o p.2 ⟨l2, ws, rfl, h2, i2⟩
      · have : b = [] := List.eq_nil_of_length_eq_zero (by rw [← i2.len, z]; rfl)
        subst this
        have p2 : P (.tup (a ++ [])) := p.2
        rw [List.append_nil] at p2
        exact q.here o p2 ⟨l, vs, rfl, h1, i1⟩
    | _ => exact False.elim p
  | _ => exact False.elim p
theorem od_sub : OpD X (binaryOp .Sub) subD := by
  refine ⟨_, op_sub, fun Mb M B H dx dy vx vy P EE Q o ix iy p q => ?_⟩
  cases dx with
  | int a =>
    cases dy with
    | int b => exact ⟨a, b, ix, iy, q.here o p rfl⟩
    | _ => exact False.elim p
  | _ => exact False.elim p
theorem rep_is {K : PySem.W.Frag} {M B : Addr → Prop} {H : Hp} {ds : List D} {vs : List V} (i : IsL K M B H ds vs) : ∀ n : Nat, IsL K M B H (List.replicate n ds).flatten (List.replicate n vs).flatten
  | 0 => rfl
  | n + 1 => by
    rw [List.replicate_succ, List.replicate_succ, List.flatten_cons, List.flatten_cons]
    exact i.append (rep_is i n)
theorem od_mul : OpD X (binaryOp .Mult) mulD := by
  refine ⟨_, op_mul.or (op_rep.or op_repT), fun Mb M B H dx dy vx vy P EE Q o ix iy p q => ?_⟩
  cases dx with
  | int a =>
    cases dy with
    | int b => exact .inl ⟨a, b, ix, iy, p.1, q.here o p.2 rfl⟩
    | _ => exact False.elim p
  | lst a =>
    cases dy with
    | int b =>
      obtain ⟨l, vs, e1, n1, h1, i1⟩ := isLs ix
      exact .inr (.inl ⟨l, b, vs, e1, iy, h1, by have := p.1.1; omega, by have := p.1.2.1; omega, by rw [i1.len]; exact line_ok p.1.2.2, fun r n => q.new o p.2 (rep_is i1 _) n⟩)
    | _ => exact False.elim p
  | tup a =>
    cases dy with
    | int b =>
      obtain ⟨l, vs, e1, h1, i1⟩ := isT ix
      refine .inr (.inr ⟨l, b, vs, e1, iy, h1.sqT, fun z => p.1.1 (List.eq_nil_of_length_eq_zero (by rw [← i1.len, z]; rfl)), p.1.2.1, p.1.2.2.1, by rw [i1.len]; exact p.1.2.2.2, fun r n => q.newP o p.2 (rep_is i1 _) n⟩)
    | _ => exact False.elim p
  | _ => exact False.elim p
theorem od_div : OpD X (binaryOp .FloorDiv) divD := by
  refine ⟨_, op_fdiv, fun Mb M B H dx dy vx vy P EE Q o ix iy p q => ?_⟩
  cases dx with
  | int a =>
    cases dy with
    | int b => exact ⟨a, b, ix, iy, p.1, q.here o p.2 rfl⟩
    | _ => exact False.elim p
  | _ => exact False.elim p
theorem od_mod : OpD X (binaryOp .Mod) modD := by
  refine ⟨_, op_mod, fun Mb M B H dx dy vx vy P EE Q o ix iy p q => ?_⟩
  cases dx with
  | int a =>
    cases dy with
    | int b => exact ⟨a, b, ix, iy, p.1, q.here o p.2 rfl⟩
    | _ => exact False.elim p
  | _ => exact False.elim p
theorem od_pow : OpD X (binaryOp .Pow) powD := by
  refine ⟨_, op_pow, fun Mb M B H dx dy vx vy P EE Q o ix iy p q => ?_⟩
  cases dx with
  | int a =>
    cases dy with
    | int b => exact ⟨a, b, ix, iy, p.1, q.here o p.2 rfl⟩
    | _ => exact False.elim p
  | _ => exact False.elim p
theorem od_eq (hu : X.A.units + 64 < cLine) : OpD X (compareOp .Eq) eqD := by
  refine ⟨_, op_eqD hu, fun Mb M B H dx dy vx vy P EE Q o ix iy p q => ?_⟩
  exact ⟨dx.py, dy.py, dp_shp p.1.1 ix, dp_shp p.1.2 iy, p.1.1, p.1.2, q.here o p.2 rfl⟩
theorem od_ne (hu : X.A.units + 64 < cLine) : OpD X (compareOp .NotEq) neD := by
  refine ⟨_, op_neD hu, fun Mb M B H dx dy vx vy P EE Q o ix iy p q => ?_⟩
  exact ⟨dx.py, dy.py, dp_shp p.1.1 ix, dp_shp p.1.2 iy, p.1.1, p.1.2, q.here o p.2 rfl⟩
theorem od_lt : OpD X (compareOp .Lt) ltD := by
  refine ⟨_, op_lt, fun Mb M B H dx dy vx vy P EE Q o ix iy p q => ?_⟩
  cases dx with
  | int a =>
    cases dy with
    | int b => exact ⟨a, b, ix, iy, q.here o p rfl⟩
    | _ => exact False.elim p
  | _ => exact False.elim p
theorem od_le : OpD X (compareOp .LtE) leD := by
  refine ⟨_, op_le, fun Mb M B H dx dy vx vy P EE Q o ix iy p q => ?_⟩
  cases dx with
  | int a =>
    cases dy with
    | int b => exact ⟨a, b, ix, iy, q.here o p rfl⟩
    | _ => exact False.elim p
  | _ => exact False.elim p
theorem od_gt : OpD X (compareOp .Gt) gtD := by
  refine ⟨_, op_gt, fun Mb M B H dx dy vx vy P EE Q o ix iy p q => ?_⟩
  cases dx with
  | int a =>
    cases dy with
    | int b => exact ⟨a, b, ix, iy, q.here o p rfl⟩
    | _ => exact False.elim p
  | _ => exact False.elim p
theorem od_ge : OpD X (compareOp .GtE) geD := by
  refine ⟨_, op_ge, fun Mb M B H dx dy vx vy P EE Q o ix iy p q => ?_⟩
  cases dx with
  | int a =>
    cases dy with
    | int b => exact ⟨a, b, ix, iy, q.here o p rfl⟩
    | _ => exact False.elim p
  | _ => exact False.elim p
theorem one_sign {x : Str} (h : x.cps.size = 1) : x = ⟨#[x.cps.getD 0 0]⟩ := by
  obtain ⟨c⟩ := x
  have h' : c.size = 1 := h
  have e : c = #[c.getD 0 0] := by
    apply Array.ext
    · simpa using h'
    · intro i h1 h2
      have : i = 0 := by simp at h2; omega
      subst this
      simp [Array.getD, h']
  exact congrArg Str.mk e
theorem od_in : OpD X (compareOp .In) inD := by
  refine ⟨_, op_in_seq.or op_in_sign, fun Mb M B H dx dy vx vy P EE Q o ix iy p q => ?_⟩
  have main : ∀ {ds : List D} {a : Addr} {vs : List V}, vy = .ref a → (SqL X.K H a vs ∨ SqT X.K H a vs) → IsL X.K M B H ds vs → (need (dx.flat = true ∧ ds.all D.flat = true) (pure (.bl (memL dx ds))) : W D) P EE → rIn X.K false vx vy H Q := fun {ds a vs} e s i p => by
    refine ⟨a, vs, e, s, flat_V ix p.1.1, flat_all i p.1.2, ?_⟩
    rw [flat_in ix p.1.1 i p.1.2]
    exact q.here o p.2 rfl
  cases dy with
  | lst ds =>
    obtain ⟨a, vs, e, n, s, i⟩ := isLs iy
    exact .inl (main e (.inl (.of s)) i (by cases dx <;> exact p))
  | tup ds =>
    obtain ⟨a, vs, e, s, i⟩ := isT iy
    exact .inl (main e (.inr s.sqT) i (by cases dx <;> exact p))
  | str z =>
    cases dx with
    | str x =>
      refine .inr ⟨x.cps.getD 0 0, z, ?_, iy, q.here o p.2 rfl⟩
      rw [show vx = .str x from ix]
      exact congrArg V.str (one_sign p.1)
    | _ => exact False.elim p
  | _ => cases dx <;> exact False.elim p
theorem od_notIn : OpD X (compareOp .NotIn) notInD := by
  refine ⟨_, op_notIn_seq.or op_notIn_sign, fun Mb M B H dx dy vx vy P EE Q o ix iy p q => ?_⟩
  have main : ∀ {ds : List D} {a : Addr} {vs : List V}, vy = .ref a → (SqL X.K H a vs ∨ SqT X.K H a vs) → IsL X.K M B H ds vs → (need (dx.flat = true ∧ ds.all D.flat = true) (pure (.bl (!memL dx ds))) : W D) P EE → rIn X.K true vx vy H Q := fun {ds a vs} e s i p => by
    refine ⟨a, vs, e, s, flat_V ix p.1.1, flat_all i p.1.2, ?_⟩
    rw [flat_in ix p.1.1 i p.1.2]
    exact q.here o p.2 rfl
  cases dy with
  | lst ds =>
    obtain ⟨a, vs, e, n, s, i⟩ := isLs iy
    exact .inl (main e (.inl (.of s)) i (by cases dx <;> exact p))
  | tup ds =>
    obtain ⟨a, vs, e, s, i⟩ := isT iy
    exact .inl (main e (.inr s.sqT) i (by cases dx <;> exact p))
  | str z =>
    cases dx with
    | str x =>
      refine .inr ⟨x.cps.getD 0 0, z, ?_, iy, q.here o p.2 rfl⟩
      rw [show vx = .str x from ix]
      exact congrArg V.str (one_sign p.1)
    | _ => exact False.elim p
  | _ => cases dx <;> exact False.elim p
theorem isNon_V {K : PySem.W.Frag} {M B : Addr → Prop} {H : Hp} {d : D} {v : V} (i : Is K M B H d v) : decide (v = V.non) = d.isNon := by
  cases d with
  | non => rw [show v = .non from i]; rfl
  | bl b => rw [show v = .bl b from i]; rfl
  | int b => rw [show v = .int b from i]; rfl
  | str b => rw [show v = .str b from i]; rfl
  | tup ds => obtain ⟨a, vs, e, _⟩ := i; rw [e]; rfl
  | pr ds => obtain ⟨a, vs, e, _⟩ := i; rw [e]; rfl
  | lst ds => obtain ⟨a, vs, e, _⟩ := i; rw [e]; rfl
  | fn a => rw [show v = .ref a from i]; rfl
  | bag => obtain ⟨a, e, _⟩ := i; rw [e]; rfl
  | scr ns => obtain ⟨a, e, _⟩ := i; rw [e]; rfl
theorem od_is : OpD X (compareOp .Is) isD := by
  refine ⟨_, op_isN.or op_isBl, fun Mb M B H dx dy vx vy P EE Q o ix iy p q => ?_⟩
  cases dy with
  | non =>
    refine .inl ⟨iy, ?_⟩
    rw [isNon_V ix]
    exact q.here o (show P (.bl dx.isNon) by cases dx <;> exact p) rfl
  | bl b =>
    cases dx with
    | bl a => exact .inr ⟨a, b, ix, iy, q.here o p rfl⟩
    | _ => exact False.elim p
  | _ => cases dx <;> exact False.elim p
theorem od_isNot : OpD X (compareOp .IsNot) isNotD := by
  refine ⟨_, op_notN.or op_notBl, fun Mb M B H dx dy vx vy P EE Q o ix iy p q => ?_⟩
  cases dy with
  | non =>
    refine .inl ⟨iy, ?_⟩
    rw [isNon_V ix]
    exact q.here o (show P (.bl (!dx.isNon)) by cases dx <;> exact p) rfl
  | bl b =>
    cases dx with
    | bl a => exact .inr ⟨a, b, ix, iy, q.here o p rfl⟩
    | _ => exact False.elim p
  | _ => cases dx <;> exact False.elim p
end

/-! ### subscripts, slices -/
def drawsOk (ds : List Int) : Prop := ds.length = 400 ∧ ∀ d ∈ ds, 0 ≤ d ∧ d < 1000
def idxD : D → D → W D
  | .lst ds, .int i => match atI ds i with | some d => pure d | none => stuck
  | .tup ds, .int i => match atI ds i with | some d => pure d | none => stuck
  | .bag, .int i => if i = 0 then (do let ds ← anyW drawsOk; pure (.lst (ds.map D.int))) else if i = 1 then (do let c ← anyW (fun c : Int => 0 ≤ c); pure (.int c)) else stuck
  | .str z, .int i => need (z.length ≤ line) (match atI z.cps.toList i with | some c => pure (.str ⟨#[c]⟩) | none => stuck)
  | .scr ns, .int i => match atI ns i with | some n => pure (.int n) | none => stuck
  | _, _ => stuck
theorem scr_sq {K : PySem.W.Frag} {M B : Addr → Prop} {H : Hp} {ns : List Int} {v : V} (h : Is K M B H (.scr ns) v) : ∃ a, v = .ref a ∧ SqL K H a (ns.map V.int) := by
  obtain ⟨a, e, s⟩ := h
  refine ⟨a, e, ?_⟩
  rcases s with ⟨o, s⟩ | s
  · exact .inl (.inr ⟨o, s⟩)
  · rcases s with (s | ⟨o, s⟩) | s
    · cases s
    · cases s
    · exact .inr s
def cutL {α : Type} (xs : List α) (lo hi : Option Int) : List α := (xs.drop (HT.sIx xs.length 0 lo)).take (HT.sIx xs.length xs.length hi - HT.sIx xs.length 0 lo)
def slcD (d : D) (lo hi : Option Int) : W D := match d with
  | .lst ds => pure (.lst (cutL ds lo hi))
  | .tup ds => pure (.tup (cutL ds lo hi))
  | .str z => need (z.length ≤ line) (pure (.str (cutS z lo hi)))
  | _ => stuck
def intD : D → W Int
  | .int i => pure i
  | _ => stuck
section
variable {X : Cx} {E : XK} {ρ : List SV} {a b : Expr} {ma mb : W D} {pos : Pos}
theorem atI_is {K : PySem.W.Frag} {M B : Addr → Prop} {H : Hp} {ds : List D} {vs : List V} {i : Int} {d : D} (h : IsL K M B H ds vs) (e : atI ds i = some d) : ∃ v, atI vs i = some v ∧ Is K M B H d v := by
  unfold atI at e ⊢
  rw [h.len]
  cases q : ixN ds.length i with
  | none => rw [q] at e; cases e
  | some j =>
    rw [q] at e
    exact h.get e
theorem ex_ix (ha : EX X E a ρ ma) (hb : EX X E b ρ mb) (hs : PlainIx b := by exact fun _ _ => rfl) : EX X E (.Subscript a b pos) ρ (do let x ← ma; let y ← mb; idxD x y) := by
  intro Mb M B σ H P EE Q o rp p q e
  refine of_pe (pe_ix (ix_list.or (ix_tup.or ix_str)) pe_w pe_w hs) ?_
  refine ha Mb M B σ H (fun x => ((do let y ← mb; idxD x y) : W D) P EE) EE _ o rp p (fun x vx H1 px g1 ix => ?_) e
  refine hb Mb M B σ H1 (fun y => idxD x y P EE) EE _ g1.ok (rp.go o g1) px (fun y vy H2 py g2 iy => ?_) (e.go g1)
  have ix2 := ix.mono g2.ext g1.ok
  have q2 := q.go (g1.trans g2)
  cases y with
  | int i =>
    cases x with
    | lst ds =>
      obtain ⟨l, vs, e1, n1, h1, i1⟩ := isLs ix2
      cases w : atI ds i with
      | none =>
        have py' : (match atI ds i with | some d => pure d | none => stuck : W D) P EE := py
        rw [w] at py'
        exact False.elim py'
      | some d =>
        have py' : (match atI ds i with | some d => pure d | none => stuck : W D) P EE := py
        rw [w] at py'
        obtain ⟨v, e2, i2⟩ := atI_is i1 w
        exact .inl ⟨l, vs, i, v, e1, iy, .of h1, e2, q2.here g2.ok py' i2⟩
    | tup ds =>
      obtain ⟨l, vs, e1, h1, i1⟩ := isT ix2
      cases w : atI ds i with
      | none =>
        have py' : (match atI ds i with | some d => pure d | none => stuck : W D) P EE := py
        rw [w] at py'
        exact False.elim py'
      | some d =>
        have py' : (match atI ds i with | some d => pure d | none => stuck : W D) P EE := py
        rw [w] at py'
        obtain ⟨v, e2, i2⟩ := atI_is i1 w
        exact .inr (.inl ⟨l, vs, i, v, e1, iy, h1.sqT, e2, q2.here g2.ok py' i2⟩)
    | bag =>
      obtain ⟨l, e1, b⟩ := ix2
      obtain ⟨c, n, ds, h1, nc, h3, h4, h5, h6⟩ := g2.ok.bg l b
      have py' : (if i = 0 then (do let ds ← anyW drawsOk; pure (.lst (ds.map D.int))) else if i = 1 then (do let c ← anyW (fun c : Int => 0 ≤ c); pure (.int c)) else stuck : W D) P EE := py
      by_cases i0 : i = 0
      · rw [if_pos i0] at py'
        subst i0
        exact .inl ⟨l, [.ref c, .int n], 0, .ref c, e1, iy, .of h1, by rfl, q2.here g2.ok (py' ds ⟨h4, h5⟩) ⟨c, ds.map V.int, rfl, nc, h3, IsL.of_ints ds⟩⟩
      · rw [if_neg i0] at py'
        by_cases i1 : i = 1
        · rw [if_pos i1] at py'
          subst i1
          exact .inl ⟨l, [.ref c, .int n], 1, .int n, e1, iy, .of h1, by rfl, q2.here g2.ok (d := .int n) (py' n h6) rfl⟩
        · rw [if_neg i1] at py'
          exact False.elim py'
    | scr ns =>
      obtain ⟨l, e1, h1⟩ := scr_sq ix2
      cases w : atI ns i with
      | none =>
        have py' : (match atI ns i with | some n => pure (.int n) | none => stuck : W D) P EE := py
        rw [w] at py'
        exact False.elim py'
      | some n =>
        have py' : (match atI ns i with | some n => pure (.int n) | none => stuck : W D) P EE := py
        rw [w] at py'
        have e2 : atI (ns.map V.int) i = some (.int n) := by
          unfold atI at w ⊢
          rw [List.length_map]
          cases q : ixN ns.length i with
          | none => rw [q] at w; cases w
          | some j =>
            rw [q] at w
            show (ns.map V.int)[j]? = _
            have w' : ns[j]? = some n := w
            rw [List.getElem?_map, w']
            rfl
        exact .inl ⟨l, _, i, .int n, e1, iy, h1, e2, q2.here g2.ok py' rfl⟩
    | str z =>
      have py' : z.length ≤ line ∧ (match atI z.cps.toList i with | some c => pure (.str ⟨#[c]⟩) | none => stuck : W D) P EE := py
      cases w : atI z.cps.toList i with
      | none =>
        rw [w] at py'
        exact False.elim py'.2
      | some c =>
        rw [w] at py'
        exact .inr (.inr ⟨z, i, c, ix2, iy, line_ok py'.1, w, q2.here g2.ok py'.2 rfl⟩)
    | _ => exact False.elim py
  | _ => cases x <;> exact False.elim py
/-- a part of a slice -/
def EO (X : Cx) (E : XK) (e : Option Expr) (ρ : List SV) (m : W (Option Int)) : Prop := ∃ t, PO X e t ∧ ∀ Mb M B σ H P EE (Q : Option Int → Hp → Prop), Ok Mb M B H → Rp X.K Mb M B σ H ρ → m P EE → (∀ o H', P o → Go Mb M B H H' → Q o H') → PostE X E Mb M B H EE → t σ H Q
theorem eo_none : EO X E none ρ (pure none) := ⟨_, po_none, fun Mb M B σ H P EE Q o rp p q _ => q none H p (.refl o)⟩
theorem eo_some {e : Expr} {m : W D} (h : EX X E e ρ m) : EO X E (some e) ρ (do let x ← m; let i ← intD x; pure (some i)) := by
  refine ⟨_, po_some pe_w, fun Mb M B σ H P EE Q o rp p q ee => ?_⟩
  refine h Mb M B σ H (fun x => ((do let i ← intD x; pure (some i)) : W (Option Int)) P EE) EE _ o rp p (fun x vx H1 px g1 ix => ?_) ee
  cases x with
  | int i => exact ⟨i, ix, q (some i) H1 px g1⟩
  | _ => exact False.elim px
theorem cutL_is {K : PySem.W.Frag} {M B : Addr → Prop} {H : Hp} {ds : List D} {vs : List V} (h : IsL K M B H ds vs) (lo hi : Option Int) : IsL K M B H (cutL ds lo hi) (cutV vs lo hi) := by
  unfold cutL cutV
  rw [h.len]
  exact (h.drop _).take _
theorem cut_whole {K : PySem.W.Frag} {M B : Addr → Prop} {H : Hp} {ds : List D} {vs : List V} {lo hi : Option Int} (h : IsL K M B H ds vs) (z : HT.sIx vs.length 0 lo = 0 ∧ HT.sIx vs.length vs.length hi = vs.length) : cutL ds lo hi = ds := by
  unfold cutL
  rw [← h.len, z.1, z.2, List.drop_zero, Nat.sub_zero, h.len]
  exact List.take_length
theorem ex_slc {lo hi : Option Expr} {ml mh : W (Option Int)} {p2 : Pos} (ha : EX X E a ρ ma) (hl : EO X E lo ρ ml) (hh : EO X E hi ρ mh) : EX X E (.Subscript a (.Slice lo hi none p2) pos) ρ (do let x ← ma; let l ← ml; let u ← mh; slcD x l u) := by
  intro Mb M B σ H P EE Q o rp p q e
  obtain ⟨tl, pl, sl⟩ := hl
  obtain ⟨th, ph, sh⟩ := hh
  refine of_pe (pe_slice (sl_list.or (sl_tupN.or sl_str)) pe_w pl ph) ?_
  refine ha Mb M B σ H (fun x => ((do let l ← ml; let u ← mh; slcD x l u) : W D) P EE) EE _ o rp p (fun x vx H1 px g1 ix => ?_) e
  refine sl Mb M B σ H1 (fun l => ((do let u ← mh; slcD x l u) : W D) P EE) EE _ g1.ok (rp.go o g1) px (fun l H2 p2 g2 => ?_) (e.go g1)
  refine sh Mb M B σ H2 (fun u => slcD x l u P EE) EE _ g2.ok (rp.go o (g1.trans g2)) p2 (fun u H3 p3 g3 => ?_) (e.go (g1.trans g2))
  have ix3 := (ix.mono g2.ext g1.ok).mono g3.ext g2.ok
  have q3 := q.go (g1.trans (g2.trans g3))
  cases x with
  | lst ds =>
    obtain ⟨c, vs, e1, n1, h1, i1⟩ := isLs ix3
    exact .inl ⟨c, vs, e1, .of h1, fun r n => q3.new g3.ok p3 (cutL_is i1 l u) n⟩
  | tup ds =>
    obtain ⟨c, vs, e1, h1, i1⟩ := isT ix3
    refine .inr (.inl ⟨c, vs, e1, h1.sqT, fun z => ?_, fun _ r ob n nd => q3.newT g3.ok p3 (cutL_is i1 l u) n nd⟩)
    have p3' : P (.tup (cutL ds l u)) := p3
    rw [cut_whole i1 z] at p3'
    exact q3.here g3.ok p3' ⟨c, vs, rfl, h1, i1⟩
  | str z => exact .inr (.inr ⟨z, ix3, line_ok p3.1, q3.here g3.ok p3.2 rfl⟩)
  | _ => exact False.elim p3
/-- .. a new list -/
def lstD : D → W (List D)
  | .lst ds => pure ds
  | _ => stuck
theorem ef_slc {lo hi : Option Expr} {ml mh : W (Option Int)} {p2 : Pos} (ha : EX X E a ρ ma) (hl : EO X E lo ρ ml) (hh : EO X E hi ρ mh) : EF X E (.Subscript a (.Slice lo hi none p2) pos) ρ (do let x ← ma; let l ← ml; let u ← mh; let ds ← lstD x; pure (cutL ds l u)) := by
  intro Mb M B σ H P EE Q o rp p q e
  obtain ⟨tl, pl, sl⟩ := hl
  obtain ⟨th, ph, sh⟩ := hh
  refine of_pe (pe_slice sl_list pe_w pl ph) ?_
  refine ha Mb M B σ H (fun x => ((do let l ← ml; let u ← mh; let ds ← lstD x; pure (cutL ds l u)) : W (List D)) P EE) EE _ o rp p (fun x vx H1 px g1 ix => ?_) e
  refine sl Mb M B σ H1 (fun l => ((do let u ← mh; let ds ← lstD x; pure (cutL ds l u)) : W (List D)) P EE) EE _ g1.ok (rp.go o g1) px (fun l H2 p2 g2 => ?_) (e.go g1)
  refine sh Mb M B σ H2 (fun u => ((do let ds ← lstD x; pure (cutL ds l u)) : W (List D)) P EE) EE _ g2.ok (rp.go o (g1.trans g2)) p2 (fun u H3 p3 g3 => ?_) (e.go (g1.trans g2))
  have ix3 := (ix.mono g2.ext g1.ok).mono g3.ext g2.ok
  have q3 := q.go o (g1.trans (g2.trans g3))
  cases x with
  | lst ds =>
    obtain ⟨c, vs, e1, n1, h1, i1⟩ := isLs ix3
    exact ⟨c, vs, e1, .of h1, fun r n => q3.new g3.ok p3 (cutL_is i1 l u) n⟩
  | _ => exact False.elim p3
/-- a + b, lists: a new list -/
theorem ef_cat (ha : EX X E a ρ ma) (hb : EX X E b ρ mb) : EF X E (.BinOp a .Add b pos) ρ (do let x ← ma; let y ← mb; let ds ← lstD x; let es ← lstD y; need (ds.length + es.length ≤ line) (pure (ds ++ es))) := by
  intro Mb M B σ H P EE Q o rp p q e
  refine of_pe (pe_op op_cat pe_w pe_w) ?_
  refine ha Mb M B σ H (fun x => ((do let y ← mb; let ds ← lstD x; let es ← lstD y; need (ds.length + es.length ≤ line) (pure (ds ++ es))) : W (List D)) P EE) EE _ o rp p (fun x vx H1 px g1 ix => ?_) e
  refine hb Mb M B σ H1 (fun y => ((do let ds ← lstD x; let es ← lstD y; need (ds.length + es.length ≤ line) (pure (ds ++ es))) : W (List D)) P EE) EE _ g1.ok (rp.go o g1) px (fun y vy H2 py g2 iy => ?_) (e.go g1)
  have ix2 := ix.mono g2.ext g1.ok
  have q2 := q.go o (g1.trans g2)
  cases x with
  | lst ds =>
    cases y with
    | lst es =>
      obtain ⟨l, vs, e1, n1, h1, i1⟩ := isLs ix2
      obtain ⟨l2, ws, e2, n2, h2, i2⟩ := isLs iy
      have py' : ds.length + es.length ≤ line ∧ P (ds ++ es) := py
      exact ⟨l, l2, vs, ws, e1, e2, h1, h2, by rw [i1.len, i2.len]; exact line_ok py'.1, fun r n => q2.new g2.ok py'.2 (i1.append i2) n⟩
    | _ => exact False.elim py
  | _ => exact False.elim py
end
end DG

/-! ## DG4 -/
set_option Elab.async false
set_option linter.all false
set_option maxRecDepth 100000
set_option maxHeartbeats 4000000
namespace DG
open PySem PySem.Spec PyProof.Rows L2

/-! ### defs -/
def SpD (K : PySem.W.Frag) (mg : Str → Option Value) (n : Nat) (den : List D → W D) : Sp := fun vs H Q E => ∃ (Mb B : Addr → Prop) (ds : List D) (P : D → Prop) (EE : Exn → Prop),
  vs.length = n ∧ Ok Mb Mb B H ∧ IsL K Mb B H ds vs ∧ den ds P EE ∧ (∀ d v H', P d → Go Mb Mb B H H' → Is K Mb B H' d v → Q v H') ∧ (∀ x H', EE x → Go Mb Mb B H H' → ∀ C, mg x = some (.ref C) → E (.ref C) none H')
/-- .. a new list is handed back -/
def SpF (K : PySem.W.Frag) (mg : Str → Option Value) (n : Nat) (den : List D → W (List D)) : Sp := fun vs H Q E => ∃ (Mb B : Addr → Prop) (ds : List D) (P : List D → Prop) (EE : Exn → Prop),
  vs.length = n ∧ Ok Mb Mb B H ∧ IsL K Mb B H ds vs ∧ den ds P EE ∧ (∀ d p ws H', P d → Go Mb Mb B H H' → H p = none → H' p = some (.lst ws) → IsL K (fun a => Mb a ∨ a = p) B H' d ws → Q (.ref p) H') ∧ (∀ x H', EE x → Go Mb Mb B H H' → ∀ C, mg x = some (.ref C) → E (.ref C) none H')
structure DefD (P : Program) (w : World) (K : PySem.W.Frag) (mg : Str → Option Value) (base : Heap) (k : Nat) (x : Str) (ps : List Str) (sp : Sp) : Prop where
  ex : ∃ f fd, FnOk P w K mg base (L2N.CX P w) k f fd ps sp ∧ mg x = some (.ref f) ∧ PySem.W.keepIn K (.ref f) = true ∧ Binds K fd ps []
theorem DefD.mono {P : Program} {w : World} {K : PySem.W.Frag} {mg : Str → Option Value} {base : Heap} {j k : Nat} {x : Str} {ps : List Str} {sp : Sp} (h : DefD P w K mg base j x ps sp) (l : j ≤ k) : DefD P w K mg base k x ps sp := by
  obtain ⟨f, fd, F, r⟩ := h.ex
  exact ⟨f, fd, F.mono l, r⟩
/-- where one stands -/
structure Cg (X : Cx) (E : XK) (k : Nat) : Prop where
  calm : X.calm = true
  nd : X.N.Nodup
  room : Room k X.A
  pass : Passes (L2N.CX X.prog X.w) X E
theorem Ok.base {Mb M B : Addr → Prop} {H : Hp} (o : Ok Mb M B H) : Ok M M B H := ⟨fun a b => o.mm a (o.bm a b), fun _ m => m, o.tr, o.bg⟩
theorem Go.base {Mb M B : Addr → Prop} {H H' : Hp} (o : Ok Mb M B H) (g : Go M M B H H') : Go Mb M B H H' := ⟨g.ext, ⟨o.bm, o.mm, g.ok.tr, g.ok.bg⟩⟩
section
variable {X : Cx} {E : XK} {ρ : List SV} {pos : Pos} {k j : Nat}
theorem ex_call {x : Str} {ps : List Str} {den : List D → W D} {p : Pos} {e : Expr} {es : List Expr} {ma : W (List D)} (F : DefD X.prog X.w X.K X.mg X.base k x ps (SpD X.K X.mg ps.length den)) (G : Cg X E j) (hk : k ≤ j) (ha : EA X E (e :: es) ρ ma)
    (hn : (e :: es).length = ps.length := by rfl) (hg : Gl X x := by rfl) (hdb : (x == ("__debug__" : Str)) = false := by decide) (he : starEach (e :: es) X.env = (false, eval e X.env) :: starEach es X.env := by rfl) (hpl : (backTo pos (starEach es X.env)).any (·.1) = false := by rfl) :
    EX X E (.Call (.Name x p) (e :: es) [] pos) ρ (do let ds ← ma; den ds) := by
  intro Mb M B σ H P EE Q o rp pm q ee
  obtain ⟨f, fd, Fn, hm, hkp, hb⟩ := F.ex
  refine of_pe (pe_call (Fn.mono hk) G.room hg hm hkp hb .nil G.pass pa_w hdb he hpl) ?_
  refine ha Mb M B σ H (fun ds => den ds P EE) EE _ o rp pm (fun ds vs H1 pd g1 il nl => ?_) ee
  refine ⟨M, B, ds, P, EE, by rw [List.append_nil, nl, hn], g1.ok.base, by rw [List.append_nil]; exact il, pd, fun d v H2 p2 g2 i2 => q d v H2 p2 (g1.trans (Go.base g1.ok g2)) i2, fun x H2 p2 g2 => ee x H2 p2 (g1.trans (Go.base g1.ok g2))⟩
theorem ex_call0 {x : Str} {den : List D → W D} {p : Pos} (F : DefD X.prog X.w X.K X.mg X.base k x [] (SpD X.K X.mg 0 den)) (G : Cg X E j) (hk : k ≤ j)
    (hg : Gl X x := by rfl) (hdb : (x == ("__debug__" : Str)) = false := by decide) : EX X E (.Call (.Name x p) [] [] pos) ρ (den []) := by
  intro Mb M B σ H P EE Q o rp pm q ee
  obtain ⟨f, fd, Fn, hm, hkp, hb⟩ := F.ex
  refine of_pe (pe_call0 (Fn.mono hk) G.room hg hm hkp hb .nil G.pass hdb) ?_
  exact ⟨M, B, [], P, EE, rfl, o.base, rfl, pm, fun d v H2 p2 g2 i2 => q d v H2 p2 (Go.base o g2) i2, fun x H2 p2 g2 => ee x H2 p2 (Go.base o g2)⟩
theorem ef_call {x : Str} {ps : List Str} {den : List D → W (List D)} {p : Pos} {e : Expr} {es : List Expr} {ma : W (List D)} (F : DefD X.prog X.w X.K X.mg X.base k x ps (SpF X.K X.mg ps.length den)) (G : Cg X E j) (hk : k ≤ j) (ha : EA X E (e :: es) ρ ma)
    (hn : (e :: es).length = ps.length := by rfl) (hg : Gl X x := by rfl) (hdb : (x == ("__debug__" : Str)) = false := by decide) (he : starEach (e :: es) X.env = (false, eval e X.env) :: starEach es X.env := by rfl) (hpl : (backTo pos (starEach es X.env)).any (·.1) = false := by rfl) :
    EF X E (.Call (.Name x p) (e :: es) [] pos) ρ (do let ds ← ma; den ds) := by
  intro Mb M B σ H P EE Q o rp pm q ee
  obtain ⟨f, fd, Fn, hm, hkp, hb⟩ := F.ex
  refine of_pe (pe_call (Fn.mono hk) G.room hg hm hkp hb .nil G.pass pa_w hdb he hpl) ?_
  refine ha Mb M B σ H (fun ds => den ds P EE) EE _ o rp pm (fun ds vs H1 pd g1 il nl => ?_) ee
  refine ⟨M, B, ds, P, EE, by rw [List.append_nil, nl, hn], g1.ok.base, by rw [List.append_nil]; exact il, pd, fun d p ws H2 p2 g2 n2 l2 i2 => q d p ws H2 p2 (g1.trans (Go.base g1.ok g2)) (g1.free o n2) l2 i2, fun x H2 p2 g2 => ee x H2 p2 (g1.trans (Go.base g1.ok g2))⟩
end

/-! ### built-in functions by values -/
def CallD (X : Cx) (f : Value) (g : List D → W D) : Prop :=
  ∃ r : List V → Hp → VK → Prop, CallR X f r ∧ ∀ (Mb M B : Addr → Prop) (H : Hp) (ds : List D) (vs : List V) (P : D → Prop) (EE : Exn → Prop) (Q : VK), Ok Mb M B H → IsL X.K M B H ds vs → g ds P EE → Post X Mb M B H P Q → r vs H Q
def CallF (X : Cx) (f : Value) (g : List D → W (List D)) : Prop :=
  ∃ r : List V → Hp → VK → Prop, CallR X f r ∧ ∀ (Mb M B : Addr → Prop) (H : Hp) (ds : List D) (vs : List V) (P : List D → Prop) (EE : Exn → Prop) (Q : VK), Ok Mb M B H → IsL X.K M B H ds vs → g ds P EE → PostF X Mb M B H P Q → r vs H Q
section
variable {X : Cx} {E : XK} {ρ : List SV} {pos : Pos}
theorem ex_callB {x : Str} {id : String} {g : List D → W D} {p : Pos} {e : Expr} {es : List Expr} {ma : W (List D)} (hc : CallD X (.builtin id) g) (hm : X.mg x = none) (hv : bootBuiltins x = some (.builtin id)) (ha : EA X E (e :: es) ρ ma) (hg : Gl X x := by rfl)
    (hn : x ≠ "__name__" := by decide) (hdb : (x == ("__debug__" : Str)) = false := by decide) (he : starEach (e :: es) X.env = (false, eval e X.env) :: starEach es X.env := by rfl) (hpl : (backTo pos (starEach es X.env)).any (·.1) = false := by rfl) :
    EX X E (.Call (.Name x p) (e :: es) [] pos) ρ (do let ds ← ma; g ds) := by
  intro Mb M B σ H P EE Q o rp pm q ee
  obtain ⟨r, hr, hs⟩ := hc
  refine of_pe (pe_callB hr hg hm hv pa_w hn hdb he hpl) ?_
  exact ha Mb M B σ H (fun ds => g ds P EE) EE _ o rp pm (fun ds vs H1 pd g1 il nl => hs Mb M B H1 ds vs P EE Q g1.ok il pd (q.go g1)) ee
theorem ex_callTy {x : Str} {T : String} {g : List D → W D} {p : Pos} {e : Expr} {es : List Expr} {ma : W (List D)} (hc : CallD X (.type T) g) (hm : X.mg x = none) (hv : bootBuiltins x = some (.type T)) (ha : EA X E (e :: es) ρ ma) (hg : Gl X x := by rfl)
    (hn : x ≠ "__name__" := by decide) (hdb : (x == ("__debug__" : Str)) = false := by decide) (he : starEach (e :: es) X.env = (false, eval e X.env) :: starEach es X.env := by rfl) (hpl : (backTo pos (starEach es X.env)).any (·.1) = false := by rfl) :
    EX X E (.Call (.Name x p) (e :: es) [] pos) ρ (do let ds ← ma; g ds) := by
  intro Mb M B σ H P EE Q o rp pm q ee
  obtain ⟨r, hr, hs⟩ := hc
  refine of_pe (pe_callTy hr hg hm hv pa_w hn hdb he hpl) ?_
  exact ha Mb M B σ H (fun ds => g ds P EE) EE _ o rp pm (fun ds vs H1 pd g1 il nl => hs Mb M B H1 ds vs P EE Q g1.ok il pd (q.go g1)) ee
theorem ef_callB {x : Str} {id : String} {g : List D → W (List D)} {p : Pos} {e : Expr} {es : List Expr} {ma : W (List D)} (hc : CallF X (.builtin id) g) (hm : X.mg x = none) (hv : bootBuiltins x = some (.builtin id)) (ha : EA X E (e :: es) ρ ma) (hg : Gl X x := by rfl)
    (hn : x ≠ "__name__" := by decide) (hdb : (x == ("__debug__" : Str)) = false := by decide) (he : starEach (e :: es) X.env = (false, eval e X.env) :: starEach es X.env := by rfl) (hpl : (backTo pos (starEach es X.env)).any (·.1) = false := by rfl) :
    EF X E (.Call (.Name x p) (e :: es) [] pos) ρ (do let ds ← ma; g ds) := by
  intro Mb M B σ H P EE Q o rp pm q ee
  obtain ⟨r, hr, hs⟩ := hc
  refine of_pe (pe_callB hr hg hm hv pa_w hn hdb he hpl) ?_
  exact ha Mb M B σ H (fun ds => g ds P EE) EE _ o rp pm (fun ds vs H1 pd g1 il nl => hs Mb M B H1 ds vs P EE Q g1.ok il pd (q.go o g1)) ee
theorem ef_callTy {x : Str} {T : String} {g : List D → W (List D)} {p : Pos} {e : Expr} {es : List Expr} {ma : W (List D)} (hc : CallF X (.type T) g) (hm : X.mg x = none) (hv : bootBuiltins x = some (.type T)) (ha : EA X E (e :: es) ρ ma) (hg : Gl X x := by rfl)
    (hn : x ≠ "__name__" := by decide) (hdb : (x == ("__debug__" : Str)) = false := by decide) (he : starEach (e :: es) X.env = (false, eval e X.env) :: starEach es X.env := by rfl) (hpl : (backTo pos (starEach es X.env)).any (·.1) = false := by rfl) :
    EF X E (.Call (.Name x p) (e :: es) [] pos) ρ (do let ds ← ma; g ds) := by
  intro Mb M B σ H P EE Q o rp pm q ee
  obtain ⟨r, hr, hs⟩ := hc
  refine of_pe (pe_callTy hr hg hm hv pa_w hn hdb he hpl) ?_
  exact ha Mb M B σ H (fun ds => g ds P EE) EE _ o rp pm (fun ds vs H1 pd g1 il nl => hs Mb M B H1 ds vs P EE Q g1.ok il pd (q.go o g1)) ee
end

/-! ### lists of one kind -/
def D.int? : D → Option Int
  | .int i => some i
  | _ => none
def D.str? : D → Option Str
  | .str i => some i
  | _ => none
def D.bl? : D → Option Bool
  | .bl i => some i
  | _ => none
def allOf {α : Type} (f : D → Option α) : List D → Option (List α)
  | [] => some []
  | d :: ds => match f d, allOf f ds with
    | some a, some as => some (a :: as)
    | _, _ => none
theorem allOf_map {α : Type} {f : D → Option α} {g : α → D} (h : ∀ a, f (g a) = some a) : ∀ as : List α, allOf f (as.map g) = some as
  | [] => rfl
  | a :: as => by
    rw [List.map_cons]
    unfold allOf
    rw [h a, allOf_map h as]
theorem allOf_eq {α : Type} {f : D → Option α} {g : α → D} (h : ∀ d a, f d = some a → d = g a) : ∀ {ds : List D} {as : List α}, allOf f ds = some as → ds = as.map g
  | [], as, e => by
    have e' : some [] = some as := e
    cases e'
    rfl
  | d :: ds, as, e => by
    unfold allOf at e
    cases h1 : f d with
    | none => rw [h1] at e; cases e
    | some a =>
      cases h2 : allOf f ds with
      | none => rw [h1, h2] at e; cases e
      | some bs =>
        rw [h1, h2] at e
        cases e
        rw [h d a h1, allOf_eq h h2]
        rfl
theorem int?_eq : ∀ (d : D) (a : Int), d.int? = some a → d = .int a
  | .int i, a, h => by cases h; rfl
theorem str?_eq : ∀ (d : D) (a : Str), d.str? = some a → d = .str a
  | .str i, a, h => by cases h; rfl
theorem bl?_eq : ∀ (d : D) (a : Bool), d.bl? = some a → d = .bl a
  | .bl i, a, h => by cases h; rfl
def intsOf : List D → Option (List Int) := allOf D.int?
def strsOf : List D → Option (List Str) := allOf D.str?
def blsOf : List D → Option (List Bool) := allOf D.bl?
theorem intsOf_map (as : List Int) : intsOf (as.map D.int) = some as := allOf_map (g := D.int) (fun _ => rfl) as
theorem strsOf_map (as : List Str) : strsOf (as.map D.str) = some as := allOf_map (g := D.str) (fun _ => rfl) as
theorem blsOf_map (as : List Bool) : blsOf (as.map D.bl) = some as := allOf_map (g := D.bl) (fun _ => rfl) as
def optW {α β : Type} (o : Option α) (k : α → W β) : W β := match o with
  | some a => k a
  | none => stuck

/-! ### len, int, all, tuple, list, max, min, sorted -/
def lenD : List D → W D
  | [.lst ds] => pure (.int ds.length)
  | [.tup ds] => pure (.int ds.length)
  | [.str z] => need (z.length ≤ line) (pure (.int z.length))
  | [.scr ns] => pure (.int ns.length)
  | _ => stuck
def toIntD : List D → W D
  | [.int i] => pure (.int i)
  | [.bl b] => pure (.int (if b then 1 else 0))
  | _ => stuck
def allD : List D → W D
  | [.lst ds] => optW (blsOf ds) fun bs => pure (.bl (bs.all id))
  | _ => stuck
def tupleD : List D → W D
  | [.lst ds] => pure (.tup ds)
  | [.tup ds] => pure (.tup ds)
  | _ => stuck
def listD : List D → W (List D)
  | [.lst ds] => pure ds
  | [.tup ds] => pure ds
  | _ => stuck
def maxI : Int → List Int → Int
  | m, [] => m
  | m, n :: ns => maxI (max m n) ns
def minI : Int → List Int → Int
  | m, [] => m
  | m, n :: ns => minI (min m n) ns
def maxD : List D → W D
  | [.lst ds] => optW (intsOf ds) fun
    | n :: ns => pure (.int (maxI n ns))
    | [] => stuck
  | [.int a, .int b] => pure (.int (max a b))
  | _ => stuck
def minD : List D → W D
  | [.int a, .int b] => pure (.int (min a b))
  | _ => stuck
theorem maxI_ge : ∀ (ns : List Int) (m : Int), m ≤ maxI m ns ∧ (∀ y ∈ ns, y ≤ maxI m ns)
  | [], m => ⟨Int.le_refl _, fun _ h => by cases h⟩
  | n :: ns, m => by
    obtain ⟨h1, h2⟩ := maxI_ge ns (max m n)
    show m ≤ maxI (max m n) ns ∧ _
    refine ⟨Int.le_trans (Int.le_max_left _ _) h1, fun y h => ?_⟩
    rcases List.mem_cons.mp h with rfl | h
    · exact Int.le_trans (Int.le_max_right _ _) h1
    · exact h2 y h
theorem maxI_mem : ∀ (ns : List Int) (m : Int), maxI m ns ∈ m :: ns
  | [], m => List.mem_cons_self
  | n :: ns, m => by
    have h := maxI_mem ns (max m n)
    show maxI (max m n) ns ∈ _
    rcases List.mem_cons.mp h with e | h
    · rw [e]
      by_cases q : m ≤ n
      · rw [Int.max_eq_right q]
        exact List.mem_cons_of_mem _ List.mem_cons_self
      · rw [Int.max_eq_left (by omega)]
        exact List.mem_cons_self
    · exact List.mem_cons_of_mem _ (List.mem_cons_of_mem _ h)
/-- the order of texts -/
def leS (a b : Str) : Bool := !decide (b.cps.toList < a.cps.toList)
def sortedD : List D → W (List D)
  | [.lst ds] => match intsOf ds with
    | some ns => anyW' (fun ns' : List Int => ns'.Perm ns ∧ ns'.Pairwise (· ≤ ·)) fun ns' => pure (ns'.map D.int)
    | none => match strsOf ds with
      | some xs => need (xs.length < 64) (anyW' (fun ys : List Str => ys.Perm xs ∧ sortedS ys = true) fun ys => pure (ys.map D.str))
      | none => stuck
  | _ => stuck
where anyW' {α : Type} (p : α → Prop) (k : α → W (List D)) : W (List D) := do let a ← anyW p; k a
section
variable {X : Cx}
theorem isOne {K : PySem.W.Frag} {M B : Addr → Prop} {H : Hp} {d : D} {vs : List V} (h : IsL K M B H [d] vs) : ∃ v, vs = [v] ∧ Is K M B H d v := by
  obtain ⟨v, r, e, i, e2⟩ := h
  have e2' : r = [] := e2
  exact ⟨v, by rw [e, e2'], i⟩
theorem isTwo {K : PySem.W.Frag} {M B : Addr → Prop} {H : Hp} {d d' : D} {vs : List V} (h : IsL K M B H [d, d'] vs) : ∃ v v', vs = [v, v'] ∧ Is K M B H d v ∧ Is K M B H d' v' := by
  obtain ⟨v, r, e, i, e2⟩ := h
  obtain ⟨v', e3, i'⟩ := isOne e2
  exact ⟨v, v', by rw [e, e3], i, i'⟩
theorem sq_scr {K : PySem.W.Frag} {M B : Addr → Prop} {H : Hp} {ns : List Int} {v : V} (h : Is K M B H (.scr ns) v) : ∃ a, v = .ref a ∧ SqL K H a (ns.map V.int) := by
  obtain ⟨a, e, s⟩ := h
  refine ⟨a, e, ?_⟩
  rcases s with ⟨o, s⟩ | s
  · exact .inl (.inr ⟨o, s⟩)
  · rcases s with (s | ⟨o, s⟩) | s
    · cases s
    · cases s
    · exact .inr s
theorem cd_len : CallD X (.builtin "len") lenD := by
  refine ⟨_, call_len_seq.or call_len_str, fun Mb M B H ds vs P EE Q o il p q => ?_⟩
  match ds, il, p with
  | [.lst ds], il, p =>
    obtain ⟨v, e, i⟩ := isOne il
    obtain ⟨a, ws, e1, n, l, is⟩ := isLs i
    exact .inl ⟨a, ws, by rw [e, e1], .inl (.of l), by rw [is.len]; exact q.here o p rfl⟩
  | [.tup ds], il, p =>
    obtain ⟨v, e, i⟩ := isOne il
    obtain ⟨a, ws, e1, l, is⟩ := isT i
    exact .inl ⟨a, ws, by rw [e, e1], .inr l.sqT, by rw [is.len]; exact q.here o p rfl⟩
  | [.str z], il, p =>
    obtain ⟨v, e, i⟩ := isOne il
    exact .inr ⟨z, by rw [e, show v = .str z from i], line_ok p.1, q.here o p.2 rfl⟩
  | [.scr ns], il, p =>
    obtain ⟨v, e, i⟩ := isOne il
    obtain ⟨a, e1, l⟩ := sq_scr i
    refine .inl ⟨a, _, by rw [e, e1], .inl l, ?_⟩
    rw [List.length_map]
    exact q.here o p rfl
  | [], il, p => exact False.elim p
  | [.non], il, p => exact False.elim p
  | [.pr _], il, p => exact False.elim p
  | [.bl _], il, p => exact False.elim p
  | [.int _], il, p => exact False.elim p
  | [.fn _], il, p => exact False.elim p
  | [.bag], il, p => exact False.elim p
  | a :: b :: c, il, p => exact False.elim (by cases a <;> exact p)
theorem cd_int : CallD X (.type "int") toIntD := by
  refine ⟨_, call_int1, fun Mb M B H ds vs P EE Q o il p q => ?_⟩
  match ds, il, p with
  | [.int z], il, p =>
    obtain ⟨v, e, i⟩ := isOne il
    exact .inl ⟨z, by rw [e, show v = .int z from i], q.here o p rfl⟩
  | [.bl z], il, p =>
    obtain ⟨v, e, i⟩ := isOne il
    exact .inr ⟨z, by rw [e, show v = .bl z from i], q.here o p rfl⟩
  | [], il, p => exact False.elim p
  | [.non], il, p => exact False.elim p
  | [.pr _], il, p => exact False.elim p
  | [.str _], il, p => exact False.elim p
  | [.tup _], il, p => exact False.elim p
  | [.lst _], il, p => exact False.elim p
  | [.fn _], il, p => exact False.elim p
  | [.bag], il, p => exact False.elim p
  | [.scr _], il, p => exact False.elim p
  | a :: b :: c, il, p => exact False.elim (by cases a <;> exact p)
theorem lst1 {P : D → Prop} {EE : Exn → Prop} {g : List D → W D} {ds : List D} (h : ∀ es, (∀ x, es ≠ [.lst x]) → ¬ g es P EE) (p : g ds P EE) : ∃ x, ds = [.lst x] := by
  by_cases q : ∃ x, ds = [.lst x]
  · exact q
  · exact absurd p (h ds fun x e => q ⟨x, e⟩)
theorem cd_all (hc : X.calm = true) : CallD X (.builtin "all") allD := by
  refine ⟨_, cr_all hc, fun Mb M B H ds vs P EE Q o il p q => ?_⟩
  obtain ⟨x, rfl⟩ := lst1 (g := allD) (fun es h z => by
    unfold allD at z
    split at z
    · exact h _ rfl
    · exact z) p
  obtain ⟨v, e, i⟩ := isOne il
  obtain ⟨a, ws, e1, n, l, is⟩ := isLs i
  have p' : (optW (blsOf x) fun bs => pure (.bl (bs.all id)) : W D) P EE := p
  cases hb : blsOf x with
  | none => rw [hb] at p'; exact False.elim p'
  | some bs =>
    rw [hb] at p'
    have e2 := allOf_eq bl?_eq hb
    subst e2
    have e3 := is.bools
    subst e3
    exact ⟨a, bs, by rw [e, e1], .of l, q.here o p' rfl⟩
theorem cd_tuple : CallD X (.type "tuple") tupleD := by
  refine ⟨_, call_tupleN, fun Mb M B H ds vs P EE Q o il p q => ?_⟩
  match ds, il, p with
  | [.lst ds], il, p =>
    obtain ⟨v, e, i⟩ := isOne il
    obtain ⟨a, ws, e1, n, l, is⟩ := isLs i
    exact ⟨a, ws, by rw [e, e1], .inl ⟨.of l, fun c ob n nd => q.newT o p is n nd⟩⟩
  | [.tup ds], il, p =>
    obtain ⟨v, e, i⟩ := isOne il
    obtain ⟨a, ws, e1, l, is⟩ := isT i
    exact ⟨a, ws, by rw [e, e1], .inr ⟨l.sqT, q.here o p ⟨a, ws, rfl, l, is⟩⟩⟩
  | [], il, p => exact False.elim p
  | [.non], il, p => exact False.elim p
  | [.pr _], il, p => exact False.elim p
  | [.str _], il, p => exact False.elim p
  | [.bl _], il, p => exact False.elim p
  | [.int _], il, p => exact False.elim p
  | [.fn _], il, p => exact False.elim p
  | [.bag], il, p => exact False.elim p
  | [.scr _], il, p => exact False.elim p
  | a :: b :: c, il, p => exact False.elim (by cases a <;> exact p)
theorem cf_list : CallF X (.type "list") listD := by
  refine ⟨_, call_list_of, fun Mb M B H ds vs P EE Q o il p q => ?_⟩
  match ds, il, p with
  | [.lst ds], il, p =>
    obtain ⟨v, e, i⟩ := isOne il
    obtain ⟨a, ws, e1, n, l, is⟩ := isLs i
    exact ⟨a, ws, by rw [e, e1], .inl (.of l), fun c n => q.new o p is n⟩
  | [.tup ds], il, p =>
    obtain ⟨v, e, i⟩ := isOne il
    obtain ⟨a, ws, e1, l, is⟩ := isT i
    exact ⟨a, ws, by rw [e, e1], .inr l.sqT, fun c n => q.new o p is n⟩
  | [], il, p => exact False.elim p
  | [.non], il, p => exact False.elim p
  | [.pr _], il, p => exact False.elim p
  | [.str _], il, p => exact False.elim p
  | [.bl _], il, p => exact False.elim p
  | [.int _], il, p => exact False.elim p
  | [.fn _], il, p => exact False.elim p
  | [.bag], il, p => exact False.elim p
  | [.scr _], il, p => exact False.elim p
  | a :: b :: c, il, p => exact False.elim (by cases a <;> exact p)
theorem max_cases {P : D → Prop} {EE : Exn → Prop} {ds : List D} (p : maxD ds P EE) : (∃ x, ds = [.lst x]) ∨ ∃ x y, ds = [.int x, .int y] := by
  unfold maxD at p
  split at p
  · exact .inl ⟨_, rfl⟩
  · exact .inr ⟨_, _, rfl⟩
  · exact False.elim p
theorem cd_max (hc : X.calm = true) : CallD X (.builtin "max") maxD := by
  refine ⟨_, (cr_max hc).or (call_max2 hc), fun Mb M B H ds vs P EE Q o il p q => ?_⟩
  rcases max_cases p with ⟨x, rfl⟩ | ⟨x, y, rfl⟩
  · obtain ⟨v, e, i⟩ := isOne il
    obtain ⟨a, ws, e1, n, l, is⟩ := isLs i
    have p' : (optW (intsOf x) _ : W D) P EE := p
    cases hb : intsOf x with
    | none =>
      rw [hb] at p'
      exact False.elim p'
    | some bs =>
      rw [hb] at p'
      have e2 := allOf_eq int?_eq hb
      subst e2
      have e3 := is.ints
      subst e3
      cases bs with
      | nil => exact False.elim p'
      | cons b bs =>
        refine .inl ⟨a, b :: bs, by rw [e, e1], .of l, by simp, fun m hm hy => ?_⟩
        have h1 := maxI_ge bs b
        have h2 := maxI_mem bs b
        have e4 : m = maxI b bs := by
          have a1 : maxI b bs ≤ m := hy _ h2
          have a2 : m ≤ maxI b bs := by
            rcases List.mem_cons.mp hm with z | z
            · rw [z]; exact h1.1
            · exact h1.2 m z
          omega
        subst e4
        exact q.here o p' rfl
  · obtain ⟨v, v', e, i, i'⟩ := isTwo il
    refine .inr ⟨x, y, by rw [e, show v = .int x from i, show v' = .int y from i'], ?_⟩
    have p' : P (.int (max x y)) := p
    have e2 : (if y > x then y else x) = max x y := by
      split <;> omega
    rw [e2]
    exact q.here o p' rfl
theorem two_ints {P : D → Prop} {EE : Exn → Prop} {g : List D → W D} {ds : List D} (h : ∀ es, (∀ x y, es ≠ [.int x, .int y]) → ¬ g es P EE) (p : g ds P EE) : ∃ x y, ds = [.int x, .int y] := by
  by_cases q : ∃ x y, ds = [.int x, .int y]
  · exact q
  · exact absurd p (h ds fun x y e => q ⟨x, y, e⟩)
theorem cd_min (hc : X.calm = true) : CallD X (.builtin "min") minD := by
  refine ⟨_, call_min2 hc, fun Mb M B H ds vs P EE Q o il p q => ?_⟩
  obtain ⟨x, y, rfl⟩ := two_ints (g := minD) (fun es h z => by
    unfold minD at z
    split at z
    · exact h _ _ rfl
    · exact z) p
  obtain ⟨v, v', e, i, i'⟩ := isTwo il
  refine ⟨x, y, by rw [e, show v = .int x from i, show v' = .int y from i'], ?_⟩
  have p' : P (.int (min x y)) := p
  have e2 : (if y < x then y else x) = min x y := by
    split <;> omega
  rw [e2]
  exact q.here o p' rfl
theorem cf_sorted : CallF X (.builtin "sorted") sortedD := by
  refine ⟨_, cr_sortedI.or cr_sortedS, fun Mb M B H ds vs P EE Q o il p q => ?_⟩
  have one : ∃ x, ds = [.lst x] := by
    by_cases h : ∃ x, ds = [.lst x]
    · exact h
    · refine absurd p ?_
      unfold sortedD
      split
      · exact absurd ⟨_, rfl⟩ h
      · exact fun z => z
  obtain ⟨x, rfl⟩ := one
  obtain ⟨v, e, i⟩ := isOne il
  obtain ⟨a, ws, e1, n, l, is⟩ := isLs i
  unfold sortedD at p
  cases hb : intsOf x with
  | some bs =>
    simp only [hb] at p
    have e2 := allOf_eq int?_eq hb
    subst e2
    have e3 := is.ints
    subst e3
    refine .inl ⟨a, bs, by rw [e, e1], .of l, fun ns' c h1 h2 n => ?_⟩
    exact q.new o (p ns' ⟨h1, h2⟩) (IsL.of_ints ns') n
  | none =>
    simp only [hb] at p
    cases hs : strsOf x with
    | none => simp only [hs] at p; exact False.elim p
    | some xs =>
      simp only [hs] at p
      have e2 := allOf_eq str?_eq hs
      subst e2
      have e3 := is.strs
      subst e3
      refine .inr ⟨a, xs, by rw [e, e1], .of l, p.1, fun ys c h1 h2 n => ?_⟩
      exact q.new o (p.2 ys ⟨h1, h2⟩) (IsL.of_strs ys) n
end
end DG

/-! ## DG5 -/
set_option Elab.async false
set_option linter.all false
set_option maxRecDepth 100000
set_option maxHeartbeats 4000000
namespace DG
open PySem PySem.Spec PyProof.Rows L2

/-! ### what is walked -/
/-- J walks the data ds while the frozen cells of H are kept -/
structure Walk (K : PySem.W.Frag) (M B : Addr → Prop) (H : Hp) (ds : List D) (J : It) : Prop where
  go : ∀ (Mb' M' : Addr → Prop) (H2 : Hp) (i : Nat), Ok Mb' M' B H2 → Kept M M' H H2 → i < ds.length → J.go i H2
  yl : ∀ (Mb' M' : Addr → Prop) (H2 : Hp) (i : Nat) (d : D) (x : V) (H3 : Hp), Ok Mb' M' B H2 → Kept M M' H H2 → ds[i]? = some d → J.yld i H2 x H3 → Go Mb' M' B H2 H3 ∧ Is K M' B H3 d x
  st : ∀ (Mb' M' : Addr → Prop) (H2 : Hp) (i : Nat), Ok Mb' M' B H2 → Kept M M' H H2 → i = ds.length → J.stop i H2
def wI (X : Cx) (tg iter : Expr) : TI := fun σ H R => Box (∀ pins s, Inv X pins σ H s →
  wpAny (model X.prog X.w) X.A (eval iter X.env) (fun v s1 => wpAny (model X.prog X.w) X.A (pyIter v) (PIE X pins σ tg R) X.xe s1) X.xe s)
theorem pi_w {X : Cx} {tg iter : Expr} : PI X tg iter (wI X tg iter) := ⟨fun pins s σ H R I h => h.run pins s I⟩
theorem of_pi {X : Cx} {tg iter : Expr} {wi : TI} {σ : L2.St} {H : Hp} {R : It → Hp → Prop} (h : PI X tg iter wi) (q : wi σ H R) : wI X tg iter σ H R := ⟨fun pins s I => h.run pins s σ H R I q⟩
def PostI (X : Cx) (Mb M B : Addr → Prop) (H : Hp) (P : List D → Prop) (R : It → Hp → Prop) : Prop := ∀ ds J H', P ds → Go Mb M B H H' → Walk X.K M B H' ds J → R J H'
def IX (X : Cx) (E : XK) (tg iter : Expr) (ρ : List SV) (m : W (List D)) : Prop := ∀ Mb M B σ H P EE R, Ok Mb M B H → Rp X.K Mb M B σ H ρ → m P EE → PostI X Mb M B H P R → PostE X E Mb M B H EE → wI X tg iter σ H R
theorem PostI.go {X : Cx} {Mb M B : Addr → Prop} {H H1 : Hp} {P : List D → Prop} {R : It → Hp → Prop} (h : PostI X Mb M B H P R) (g : Go Mb M B H H1) : PostI X Mb M B H1 P R := fun ds J H' p g' w => h ds J H' p (g.trans g') w
def sign (c : Nat) : D := .str ⟨#[c]⟩
def seqD : D → W (List D)
  | .lst ds => pure ds
  | .tup ds => pure ds
  | .str z => pure (z.cps.toList.map sign)
  | .scr ns => pure (ns.map D.int)
  | _ => stuck
/-- a list, a tuple or a text is walked -/
def iAny (K : PySem.W.Frag) (tl : TE) : TI := fun σ H R => tl σ H fun x H1 => (∃ a, x = .ref a ∧ (∃ xs, SqL K H1 a xs) ∧ R (Itl K a) H1) ∨ (∃ a, x = .ref a ∧ (∃ xs, SqT K H1 a xs) ∧ R (Itt K a) H1) ∨ ∃ z, x = .str z ∧ R (Its z) H1
theorem pi_any {X : Cx} {tg l : Expr} {tl : TE} (hl : PE X l tl) : PI X tg l (iAny X.K tl) := by
  refine ⟨fun pins s σ H R I h => ?_⟩
  refine thn (hl.run pins s σ H _ I h) fun v s1 ⟨x, H1, I1, r1, q1⟩ => ?_
  rcases q1 with ⟨a, e, ⟨xs, hq⟩, q⟩ | ⟨a, e, ⟨xs, hq⟩, q⟩ | ⟨z, ex, q⟩
  · subst e
    cases r1
    obtain ⟨its, rv, p, hz⟩ := I1.list hq
    refine wpAny_pyIter_list p.isList ?_
    refine ⟨s1.heap.objs.size, [s1.heap.objs.size], _, _, H1, rfl, I1.kept (t' := s1.toks) fun b o e => Heap.get?_push_of_some _ e, turn_list a _, ⟨_, Heap.get?_push_size _ rfl, rfl, rfl⟩, fun b hb => ?_, q⟩
    have e : b = s1.heap.objs.size := by simpa using hb
    subst e
    exact I1.fpOk (Nat.le_refl _) (I1.hok.fresh (Nat.le_refl _))
  · subst e
    cases r1
    obtain ⟨its, rv, p, hz⟩ := I1.tuple hq
    refine wpAny_pyIter_tuple (show s1.heap.IsTuple a its.toArray from p) ?_
    refine ⟨s1.heap.objs.size, [s1.heap.objs.size], _, _, H1, rfl, I1.kept (t' := s1.toks) fun b o e => Heap.get?_push_of_some _ e, turn_tuple a _, ⟨_, Heap.get?_push_size _ rfl, rfl, rfl⟩, fun b hb => ?_, q⟩
    have e : b = s1.heap.objs.size := by simpa using hb
    subst e
    exact I1.fpOk (Nat.le_refl _) (I1.hok.fresh (Nat.le_refl _))
  · subst ex
    obtain ⟨t, rfl⟩ := r1
    cases ha : z.cps.all (· < 128)
    · exact wpAny_pyIter_wide ha (pi_one (tk := s1.toks) I1 _ (turn_str _ z t "str_iterator" (.inr rfl)) ⟨_, Heap.get?_push_size _ rfl, rfl, rfl⟩ q)
    · exact wpAny_pyIter_ascii ha (pi_one (tk := s1.toks) I1 _ (turn_str _ z t "str_ascii_iterator" (.inl rfl)) ⟨_, Heap.get?_push_size _ rfl, rfl, rfl⟩ q)
section
variable {K : PySem.W.Frag} {Mb M M' B : Addr → Prop} {H H2 : Hp} {ds : List D} {vs : List V} {a : Addr}
theorem Kept.isL (k : Kept M M' H H2) {ds : List D} {vs : List V} (i : IsL K M B H ds vs) : IsL K M' B H2 ds vs := IsL.keep k (fun _ b => b) ds vs i
theorem walk_list (n : ¬ M a) (h : H a = some (.lst vs)) (il : IsL K M B H ds vs) : Walk K M B H ds (Itl K a) where
  go := fun Mb' M' H2 i o k hi => by
    obtain ⟨n2, h2⟩ := k.ls a vs n h
    have hv : i < vs.length := by rw [il.len]; exact hi
    exact ⟨vs, vs[i], .of h2, List.getElem?_eq_getElem hv⟩
  yl := fun Mb' M' H2 i d x H3 o k hd y => by
    obtain ⟨n2, h2⟩ := k.ls a vs n h
    obtain ⟨rfl, y⟩ := y
    obtain ⟨v, e, iv⟩ := (k.isL il).get hd
    have e2 := y vs (.of h2)
    rw [e] at e2
    cases e2
    exact ⟨.refl o, iv⟩
  st := fun Mb' M' H2 i o k hi0 => have hi := Nat.le_of_eq hi0.symm; ⟨vs, .of (k.ls a vs n h).2, by rw [il.len]; exact hi⟩
theorem walk_tup (h : SqT K H a vs) (il : IsL K M B H ds vs) : Walk K M B H ds (Itt K a) where
  go := fun Mb' M' H2 i o k hi => by
    have hv : i < vs.length := by rw [il.len]; exact hi
    exact ⟨vs, vs[i], k.sqT h, List.getElem?_eq_getElem hv⟩
  yl := fun Mb' M' H2 i d x H3 o k hd y => by
    obtain ⟨rfl, y⟩ := y
    obtain ⟨v, e, iv⟩ := (k.isL il).get hd
    have e2 := y vs (k.sqT h)
    rw [e] at e2
    cases e2
    exact ⟨.refl o, iv⟩
  st := fun Mb' M' H2 i o k hi0 => have hi := Nat.le_of_eq hi0.symm; ⟨vs, k.sqT h, by rw [il.len]; exact hi⟩
theorem walk_scr {ns : List Int} (h : (∃ o, H a = some (.frz o (.lst (ns.map V.int)))) ∨ SqL K (fun _ => none) a (ns.map V.int)) : Walk K M B H (ns.map D.int) (Itl K a) :=
  have key : ∀ {H2 : Hp} {M' : Addr → Prop}, Kept M M' H H2 → SqL K H2 a (ns.map V.int) := fun {H2 M'} k => by
    rcases h with ⟨o, s⟩ | s
    · exact .inl (.inr ⟨o, k.im _ _ imm_frz s⟩)
    · rcases s with (s | ⟨o, s⟩) | s
      · cases s
      · cases s
      · exact .inr s
  { go := fun Mb' M' H2 i o k hi => by
      have hv : i < (ns.map V.int).length := by rw [List.length_map]; rw [List.length_map] at hi; exact hi
      exact ⟨_, _, key k, List.getElem?_eq_getElem hv⟩
    yl := fun Mb' M' H2 i d x H3 o k hd y => by
      obtain ⟨rfl, y⟩ := y
      have e2 := y _ (key k)
      rw [List.getElem?_map] at hd e2
      cases q : ns[i]? with
      | none => rw [q] at hd; cases hd
      | some z =>
        rw [q] at hd e2
        cases hd
        cases e2
        exact ⟨.refl o, rfl⟩
    st := fun Mb' M' H2 i o k hi0 => have hi := Nat.le_of_eq hi0.symm; ⟨_, key k, by rw [List.length_map]; rw [List.length_map] at hi; exact hi⟩ }
theorem walk_str {z : Str} : Walk K M B H (z.cps.toList.map sign) (Its z) where
  go := fun Mb' M' H2 i o k hi => by
    show i < z.cps.size
    simpa using hi
  yl := fun Mb' M' H2 i d x H3 o k hd y => by
    obtain ⟨rfl, c, e, rfl⟩ := y
    rw [List.getElem?_map, Array.getElem?_toList, e] at hd
    cases hd
    exact ⟨.refl o, rfl⟩
  st := fun Mb' M' H2 i o k hi => by
    replace hi := Nat.le_of_eq hi.symm
    show z.cps.size ≤ i
    simpa using hi
/-- lo, lo + 1, .. (n of them) -/
def rngL (lo : Int) (n : Nat) : List D := (List.range n).map fun i : Nat => .int (lo + i)
theorem walk_rng {lo : Int} {n : Nat} : Walk K M B H (rngL lo n) (Itr lo n) where
  go := fun Mb' M' H2 i o k hi => by
    show i < n
    simpa [rngL] using hi
  yl := fun Mb' M' H2 i d x H3 o k hd y => by
    obtain ⟨rfl, rfl⟩ := y
    unfold rngL at hd
    rw [List.getElem?_map] at hd
    cases q : (List.range n)[i]? with
    | none => rw [q] at hd; cases hd
    | some z =>
      rw [q] at hd
      cases hd
      obtain ⟨h1, h2⟩ := List.getElem?_eq_some_iff.mp q
      rw [List.getElem_range] at h2
      subst h2
      exact ⟨.refl o, rfl⟩
  st := fun Mb' M' H2 i o k hi => by
    replace hi := Nat.le_of_eq hi.symm
    show n ≤ i
    simpa [rngL] using hi
/-- lo, lo + c, .. (n of them) -/
def rngC (lo c : Int) (n : Nat) : List D := (List.range n).map fun i : Nat => .int (lo + i * c)
theorem walk_rngC {lo c : Int} {n : Nat} : Walk K M B H (rngC lo c n) (Itc lo c n) where
  go := fun Mb' M' H2 i o k hi => by
    show i < n
    simpa [rngC] using hi
  yl := fun Mb' M' H2 i d x H3 o k hd y => by
    obtain ⟨rfl, rfl⟩ := y
    unfold rngC at hd
    rw [List.getElem?_map] at hd
    cases q : (List.range n)[i]? with
    | none => rw [q] at hd; cases hd
    | some z =>
      rw [q] at hd
      cases hd
      obtain ⟨h1, h2⟩ := List.getElem?_eq_some_iff.mp q
      rw [List.getElem_range] at h2
      subst h2
      exact ⟨.refl o, rfl⟩
  st := fun Mb' M' H2 i o k hi => by
    replace hi := Nat.le_of_eq hi.symm
    show n ≤ i
    simpa [rngC] using hi
/-- pairs -/
def pairL : List D → List D → List D
  | a :: as, b :: bs => .pr [a, b] :: pairL as bs
  | _, _ => []
theorem pairL_len : ∀ (as bs : List D), (pairL as bs).length = min as.length bs.length
  | [], _ => by simp [pairL]
  | _ :: _, [] => by simp [pairL]
  | a :: as, b :: bs => by
    show (pairL as bs).length + 1 = min (as.length + 1) (bs.length + 1)
    rw [pairL_len as bs]
    omega
theorem pairL_get : ∀ (as bs : List D) (i : Nat) (d : D), (pairL as bs)[i]? = some d → ∃ a b, as[i]? = some a ∧ bs[i]? = some b ∧ d = .pr [a, b]
  | [], _, _, _, h => by simp [pairL] at h
  | _ :: _, [], _, _, h => by simp [pairL] at h
  | a :: as, b :: bs, 0, d, h => by
    have e : D.pr [a, b] = d := Option.some.inj h
    exact ⟨a, b, rfl, rfl, e.symm⟩
  | a :: as, b :: bs, i + 1, d, h => pairL_get as bs i d h
theorem kept_go {Mb' M' : Addr → Prop} {H2 H3 : Hp} (k : Kept M M' H H2) (o : Ok Mb' M' B H2) (g : Go Mb' M' B H2 H3) : Kept M M' H H3 := k.trans (g.kept o)
theorem walk_zipL {ds' : List D} {vs' : List V} {b : Addr} (n : ¬ M a) (h : H a = some (.lst vs)) (il : IsL K M B H ds vs) (n' : ¬ M b) (h' : H b = some (.lst vs')) (il' : IsL K M B H ds' vs') : Walk K M B H (pairL ds ds') (Itz K a b) where
  go := fun Mb' M' H2 i o k hi => by
    rw [pairL_len] at hi
    have hv : i < vs.length := by rw [il.len]; omega
    have hv' : i < vs'.length := by rw [il'.len]; omega
    exact ⟨vs, vs', _, _, .of (k.ls a vs n h).2, .of (k.ls b vs' n' h').2, List.getElem?_eq_getElem hv, List.getElem?_eq_getElem hv'⟩
  yl := fun Mb' M' H2 i d x H3 o k hd y => by
    obtain ⟨T, x1, x2, rfl, hT, rfl, y1, y2⟩ := y
    obtain ⟨d1, d2, e1, e2, rfl⟩ := pairL_get _ _ _ _ hd
    obtain ⟨v1, f1, i1⟩ := (k.isL il).get e1
    obtain ⟨v2, f2, i2⟩ := (k.isL il').get e2
    have g1 := y1 vs (.of (k.ls a vs n h).2)
    have g2 := y2 vs' (.of (k.ls b vs' n' h').2)
    rw [f1] at g1
    rw [f2] at g2
    cases g1
    cases g2
    have g := Go.new (u := .tup [x1, x2]) o hT
    exact ⟨g, T, _, rfl, .of upd_same, x1, _, rfl, i1.mono g.ext o, x2, [], rfl, i2.mono g.ext o, rfl⟩
  st := fun Mb' M' H2 i o k hi => by
    replace hi := Nat.le_of_eq hi.symm
    rw [pairL_len] at hi
    refine ⟨vs, vs', .of (k.ls a vs n h).2, .of (k.ls b vs' n' h').2, ?_⟩
    rw [il.len, il'.len]
    omega
theorem walk_zipT {ds' : List D} {vs' : List V} {b : Addr} (h : SqT K H a vs) (il : IsL K M B H ds vs) (h' : SqT K H b vs') (il' : IsL K M B H ds' vs') : Walk K M B H (pairL ds ds') (RZ.ItzT K a b) where
  go := fun Mb' M' H2 i o k hi => by
    rw [pairL_len] at hi
    have hv : i < vs.length := by rw [il.len]; omega
    have hv' : i < vs'.length := by rw [il'.len]; omega
    exact ⟨vs, vs', _, _, k.sqT h, k.sqT h', List.getElem?_eq_getElem hv, List.getElem?_eq_getElem hv'⟩
  yl := fun Mb' M' H2 i d x H3 o k hd y => by
    obtain ⟨T, x1, x2, rfl, hT, rfl, y1, y2⟩ := y
    obtain ⟨d1, d2, e1, e2, rfl⟩ := pairL_get _ _ _ _ hd
    obtain ⟨v1, f1, i1⟩ := (k.isL il).get e1
    obtain ⟨v2, f2, i2⟩ := (k.isL il').get e2
    have g1 := y1 vs (k.sqT h)
    have g2 := y2 vs' (k.sqT h')
    rw [f1] at g1
    rw [f2] at g2
    cases g1
    cases g2
    have g := Go.new (u := .tup [x1, x2]) o hT
    exact ⟨g, T, _, rfl, .of upd_same, x1, _, rfl, i1.mono g.ext o, x2, [], rfl, i2.mono g.ext o, rfl⟩
  st := fun Mb' M' H2 i o k hi => by
    replace hi := Nat.le_of_eq hi.symm
    rw [pairL_len] at hi
    refine ⟨vs, vs', k.sqT h, k.sqT h', ?_⟩
    rw [il.len, il'.len]
    omega
/-- (i, x) -/
def enumL : Nat → List D → List D
  | _, [] => []
  | n, d :: ds => .pr [.int n, d] :: enumL (n + 1) ds
theorem enumL_len : ∀ (ds : List D) (n : Nat), (enumL n ds).length = ds.length
  | [], _ => rfl
  | d :: ds, n => by
    show (enumL (n + 1) ds).length + 1 = ds.length + 1
    rw [enumL_len ds (n + 1)]
theorem enumL_get : ∀ (ds : List D) (n i : Nat) (d : D), (enumL n ds)[i]? = some d → ∃ a, ds[i]? = some a ∧ d = .pr [.int (n + i : Nat), a]
  | [], _, _, _, h => by simp [enumL] at h
  | a :: ds, n, 0, d, h => by
    have e : D.pr [.int n, a] = d := Option.some.inj h
    exact ⟨a, rfl, e.symm⟩
  | a :: ds, n, i + 1, d, h => by
    obtain ⟨b, e, f⟩ := enumL_get ds (n + 1) i d h
    refine ⟨b, e, ?_⟩
    rw [f, show n + 1 + i = n + (i + 1) by omega]
theorem walk_enumL (n : ¬ M a) (h : H a = some (.lst vs)) (il : IsL K M B H ds vs) : Walk K M B H (enumL 0 ds) (Ite K a) where
  go := fun Mb' M' H2 i o k hi => by
    rw [enumL_len] at hi
    have hv : i < vs.length := by rw [il.len]; omega
    exact ⟨vs, _, .of (k.ls a vs n h).2, List.getElem?_eq_getElem hv⟩
  yl := fun Mb' M' H2 i d x H3 o k hd y => by
    obtain ⟨T, x1, rfl, hT, rfl, y1⟩ := y
    obtain ⟨d1, e1, rfl⟩ := enumL_get _ _ _ _ hd
    obtain ⟨v1, f1, i1⟩ := (k.isL il).get e1
    have g1 := y1 vs (.of (k.ls a vs n h).2)
    rw [f1] at g1
    cases g1
    have g := Go.new (u := .tup [.int i, x1]) o hT
    refine ⟨g, T, _, rfl, .of upd_same, .int i, _, rfl, ?_, x1, [], rfl, i1.mono g.ext o, rfl⟩
    show V.int i = V.int (0 + i : Nat)
    rw [Nat.zero_add]
  st := fun Mb' M' H2 i o k hi => by
    replace hi := Nat.le_of_eq hi.symm
    rw [enumL_len] at hi
    exact ⟨vs, .of (k.ls a vs n h).2, by rw [il.len]; exact hi⟩
end
section
variable {X : Cx} {E : XK} {ρ : List SV} {tg : Expr} {pos : Pos}
theorem ix_any {e : Expr} {m : W D} (h : EX X E e ρ m) : IX X E tg e ρ (do let x ← m; seqD x) := by
  intro Mb M B σ H P EE R o rp p q ee
  refine of_pi (pi_any pe_w) ?_
  refine h Mb M B σ H (fun x => seqD x P EE) EE _ o rp p (fun x vx H1 px g1 ix => ?_) ee
  cases x with
  | lst ds =>
    obtain ⟨a, vs, e1, n, l, is⟩ := isLs ix
    exact .inl ⟨a, e1, ⟨vs, .of l⟩, q ds _ H1 px g1 (walk_list n l is)⟩
  | tup ds =>
    obtain ⟨a, vs, e1, l, is⟩ := isT ix
    exact .inr (.inl ⟨a, e1, ⟨vs, l.sqT⟩, q ds _ H1 px g1 (walk_tup l.sqT is)⟩)
  | str z => exact .inr (.inr ⟨z, ix, q _ _ H1 px g1 walk_str⟩)
  | scr ns =>
    obtain ⟨a, e1, s⟩ := ix
    obtain ⟨a', e1', l⟩ := sq_scr (K := X.K) (M := M) (B := B) (H := H1) ⟨a, e1, s⟩
    rw [e1] at e1'
    cases e1'
    exact .inl ⟨a, e1, ⟨_, l⟩, q _ _ H1 px g1 (walk_scr s)⟩
  | _ => exact False.elim px
def rng1D : List D → W (List D)
  | [.int j] => need (-1000000000 ≤ j ∧ j ≤ 1000000000) (pure (rngL 0 j.toNat))
  | _ => stuck
def rng2D : List D → W (List D)
  | [.int i, .int j] => need (-1000000000 ≤ i ∧ i ≤ 1000000000 ∧ -1000000000 ≤ j ∧ j ≤ 1000000000) (pure (rngL i (j - i).toNat))
  | _ => stuck
/-- range(i, -1, -1) -/
def rngDown : List D → W (List D)
  | [.int i, .int j, .int c] => need (c = -1 ∧ j = -1 ∧ -1 ≤ i ∧ i ≤ 1000000) (pure (rngC i (-1) (i + 1).toNat))
  | _ => stuck
theorem ix_range1 {a : Expr} {p : Pos} {m : W (List D)} (ha : EA X E [a] ρ m) (hm : X.mg "range" = none) (hg : Gl X "range" := by rfl) (hs : starEach [a] X.env = [(false, eval a X.env)] := by rfl) : IX X E tg (.Call (.Name "range" p) [a] [] pos) ρ (do let ds ← m; rng1D ds) := by
  intro Mb M B σ H P EE R o rp pm q ee
  refine of_pi (pi_range1 hg hm pa_w hs) ?_
  refine ha Mb M B σ H (fun ds => rng1D ds P EE) EE _ o rp pm (fun ds vs H1 pd g1 il nl => ?_) ee
  have one : ∃ j, ds = [.int j] := by
    have pd0 : rng1D ds P EE := pd
    unfold rng1D at pd0
    split at pd0
    · exact ⟨_, rfl⟩
    · exact False.elim pd0
  obtain ⟨j, rfl⟩ := one
  obtain ⟨v, e, i⟩ := isOne il
  have pd' : (-1000000000 ≤ j ∧ j ≤ 1000000000) ∧ P (rngL 0 j.toNat) := pd
  exact ⟨j, by rw [e, show v = .int j from i], by omega, by omega, q _ _ H1 pd'.2 g1 walk_rng⟩
theorem ix_range2 {a b : Expr} {p : Pos} {m : W (List D)} (ha : EA X E [a, b] ρ m) (hm : X.mg "range" = none) (hg : Gl X "range" := by rfl) (hs : starEach [a, b] X.env = [(false, eval a X.env), (false, eval b X.env)] := by rfl) (hs2 : starEach [b] X.env = [(false, eval b X.env)] := by rfl) :
    IX X E tg (.Call (.Name "range" p) [a, b] [] pos) ρ (do let ds ← m; rng2D ds) := by
  intro Mb M B σ H P EE R o rp pm q ee
  refine of_pi (pi_range2 hg hm pa_w hs hs2) ?_
  refine ha Mb M B σ H (fun ds => rng2D ds P EE) EE _ o rp pm (fun ds vs H1 pd g1 il nl => ?_) ee
  have two : ∃ i j, ds = [.int i, .int j] := by
    have pd0 : rng2D ds P EE := pd
    unfold rng2D at pd0
    split at pd0
    · exact ⟨_, _, rfl⟩
    · exact False.elim pd0
  obtain ⟨i, j, rfl⟩ := two
  obtain ⟨v, v', e, i1, i2⟩ := isTwo il
  have pd' : (-1000000000 ≤ i ∧ i ≤ 1000000000 ∧ -1000000000 ≤ j ∧ j ≤ 1000000000) ∧ P (rngL i (j - i).toNat) := pd
  exact ⟨i, j, by rw [e, show v = .int i from i1, show v' = .int j from i2], by omega, q _ _ H1 pd'.2 g1 walk_rng⟩
theorem isThree {K : PySem.W.Frag} {M B : Addr → Prop} {H : Hp} {d d' d'' : D} {vs : List V} (h : IsL K M B H [d, d', d''] vs) : ∃ v v' v'', vs = [v, v', v''] ∧ Is K M B H d v ∧ Is K M B H d' v' ∧ Is K M B H d'' v'' := by
  obtain ⟨v, r, e, i, e2⟩ := h
  obtain ⟨v', v'', e3, i', i''⟩ := isTwo e2
  exact ⟨v, v', v'', by rw [e, e3], i, i', i''⟩
theorem ix_rangeDown {a b c : Expr} {p : Pos} {m : W (List D)} (ha : EA X E [a, b, c] ρ m) (hm : X.mg "range" = none) (hg : Gl X "range" := by rfl)
    (hs : starEach [a, b, c] X.env = (false, eval a X.env) :: starEach [b, c] X.env := by rfl) (hpl : (backTo pos (starEach [b, c] X.env)).any (·.1) = false := by rfl) :
    IX X E tg (.Call (.Name "range" p) [a, b, c] [] pos) ρ (do let ds ← m; rngDown ds) := by
  intro Mb M B σ H P EE R o rp pm q ee
  refine of_pi (pi_range3 hg hm pa_w hs hpl) ?_
  refine ha Mb M B σ H (fun ds => rngDown ds P EE) EE _ o rp pm (fun ds vs H1 pd g1 il nl => ?_) ee
  have two : ∃ i j c, ds = [.int i, .int j, .int c] := by
    have pd0 : rngDown ds P EE := pd
    unfold rngDown at pd0
    split at pd0
    · exact ⟨_, _, _, rfl⟩
    · exact False.elim pd0
  obtain ⟨i, j, c, rfl⟩ := two
  obtain ⟨v, v', v'', e, i1, i2, i3⟩ := isThree il
  have pd' : (c = -1 ∧ j = -1 ∧ -1 ≤ i ∧ i ≤ 1000000) ∧ P (rngC i (-1) (i + 1).toNat) := pd
  obtain ⟨⟨rfl, rfl, h1, h2⟩, pd'⟩ := pd'
  have r := RgC.neg (i := i) (j := -1) (by omega) (by omega) (by omega) (by omega)
  rw [show i - -1 = i + 1 by omega] at r
  exact ⟨i, -1, -1, (i + 1).toNat, by rw [e, show v = .int i from i1, show v' = .int (-1) from i2, show v'' = .int (-1) from i3], r, q _ _ H1 pd' g1 walk_rngC⟩
def zipD0 : List D → W (List D)
  | [.lst as, .lst bs] => pure (pairL as bs)
  | [.tup as, .tup bs] => pure (pairL as bs)
  | _ => stuck
theorem ix_zip0 {e e2 : Expr} {p tpos : Pos} {elts : List Expr} {kk : Nat} {m : W (List D)} (ha : EA X E [e, e2] ρ m) (hm : X.mg "zip" = none) (hg : Gl X "zip" := by rfl)
    (hs : starEach [e, e2] X.env = (false, eval e X.env) :: starEach [e2] X.env := by rfl) (hpl : (backTo pos (starEach [e2] X.env)).any (·.1) = false := by rfl) :
    IX X E (.Tuple elts kk tpos) (.Call (.Name "zip" p) [e, e2] [] pos) ρ (do let ds ← m; zipD0 ds) := by
  intro Mb M B σ H P EE R o rp pm q ee
  refine of_pi (RZ.pi_zipA hg hm pa_w hs hpl) ?_
  refine ha Mb M B σ H (fun ds => zipD0 ds P EE) EE _ o rp pm (fun ds vs H1 pd g1 il nl => ?_) ee
  have two : (∃ i j, ds = [.lst i, .lst j]) ∨ ∃ i j, ds = [.tup i, .tup j] := by
    have pd0 : zipD0 ds P EE := pd
    unfold zipD0 at pd0
    split at pd0
    · exact .inl ⟨_, _, rfl⟩
    · exact .inr ⟨_, _, rfl⟩
    · exact False.elim pd0
  rcases two with ⟨as, bs, rfl⟩ | ⟨as, bs, rfl⟩
  · obtain ⟨v, v', e, i1, i2⟩ := isTwo il
    obtain ⟨a, xs, e1, n1, l1, is1⟩ := isLs i1
    obtain ⟨b, ys, e2, n2, l2, is2⟩ := isLs i2
    exact ⟨a, b, xs, ys, by rw [e, e1, e2], .inl ⟨.of l1, .of l2, q _ _ H1 pd g1 (walk_zipL n1 l1 is1 n2 l2 is2)⟩⟩
  · obtain ⟨v, v', e, i1, i2⟩ := isTwo il
    obtain ⟨a, xs, e1, l1, is1⟩ := isT i1
    obtain ⟨b, ys, e2, l2, is2⟩ := isT i2
    exact ⟨a, b, xs, ys, by rw [e, e1, e2], .inr ⟨l1.sqT, l2.sqT, q _ _ H1 pd g1 (walk_zipT l1.sqT is1 l2.sqT is2)⟩⟩
end
end DG

/-! ## DG6 -/
set_option Elab.async false
set_option linter.all false
set_option maxRecDepth 100000
set_option maxHeartbeats 4000000
namespace DG
open PySem PySem.Spec PyProof.Rows L2

/-! ### targets -/
def wG (X : Cx) (tg : Expr) : TG := fun v σ H Q => Box (∀ pins s u, Inv X pins σ H s → RelV v u →
  wpAny (model X.prog X.w) X.A (assign tg X.env u) (fun _ s' => ∃ σ' H', Inv X pins σ' H' s' ∧ Q σ' H') X.xe s)
def wGs (X : Cx) (tgs : List Expr) : TGs := fun vs σ H Q => Box (∀ pins s us, Inv X pins σ H s → Vals vs us →
  wpAny (model X.prog X.w) X.A (assignInOrder ((assignEach tgs X.env).map (·.2)) us) (fun _ s' => ∃ σ' H', Inv X pins σ' H' s' ∧ Q σ' H') X.xe s)
structure SameBut (is : List Nat) (σ σ' : L2.St) : Prop where
  len : σ'.length = σ.length
  at_ : ∀ j, j ∉ is → σ'[j]? = σ[j]?
theorem SameBut.refl {is : List Nat} {σ : L2.St} : SameBut is σ σ := ⟨rfl, fun _ _ => rfl⟩
theorem SameBut.trans {is js : List Nat} {σ σ1 σ2 : L2.St} (a : SameBut is σ σ1) (b : SameBut js σ1 σ2) : SameBut (is ++ js) σ σ2 :=
  ⟨b.len.trans a.len, fun j h => (b.at_ j fun z => h (List.mem_append_right _ z)).trans (a.at_ j fun z => h (List.mem_append_left _ z))⟩
theorem SameBut.set {σ : L2.St} {i : Nat} {o : Option V} : SameBut [i] σ (σ.set i o) :=
  ⟨List.length_set, fun j h => List.getElem?_set_ne (by simpa using Ne.symm (by simpa using h))⟩
theorem wipe_none : ∀ (vs : List Nat) (σ : L2.St) (i : Nat), i ∈ vs → i < σ.length → (wipe σ vs)[i]? = some none
  | v :: vs, σ, i, h, hi => by
    show ((wipe σ vs).set v none)[i]? = some none
    by_cases e : v = i
    · subst e
      rw [List.getElem?_set_self (by rw [wipe_length]; exact hi)]
    · rw [List.getElem?_set_ne e]
      exact wipe_none vs σ i ((List.mem_cons.mp h).resolve_left fun z => e z.symm) hi
theorem wipe_out : ∀ (vs : List Nat) (σ : L2.St) (i : Nat), i ∉ vs → (wipe σ vs)[i]? = σ[i]?
  | [], σ, i, _ => rfl
  | v :: vs, σ, i, h => by
    show ((wipe σ vs).set v none)[i]? = _
    rw [List.getElem?_set_ne (fun z => h (by rw [z]; exact List.mem_cons_self))]
    exact wipe_out vs σ i fun z => h (List.mem_cons_of_mem _ z)
theorem wipe_same {σ σ' : L2.St} {is vs : List Nat} (h : SameBut is (wipe σ vs) σ') (hs : ∀ i ∈ is, i ∈ vs) : wipe σ' vs = wipe σ vs := by
  apply List.ext_getElem?
  intro i
  have hl : σ'.length = σ.length := by rw [h.len, wipe_length]
  by_cases hi : i < σ.length
  · by_cases hv : i ∈ vs
    · rw [wipe_none vs σ' i hv (by omega), wipe_none vs σ i hv hi]
    · rw [wipe_out vs σ' i hv, h.at_ i fun z => hv (hs i z), wipe_out vs σ i hv]
  · rw [List.getElem?_eq_none (by rw [wipe_length]; omega), List.getElem?_eq_none (by rw [wipe_length]; omega)]
section
variable {K : PySem.W.Frag} {Mb M M' B : Addr → Prop} {H H' : Hp} {ρ : List SV} {σ : L2.St} {d : D} {v : V} {i : Nat}
theorem Rp.setD (r : Rp K Mb M B σ H ρ) (h : Is K M B H d v) : Rp K Mb M B (σ.set i (some v)) H (ρ.set i (.d d)) where
  len := by rw [List.length_set, List.length_set, r.len]
  sl := fun j s e => by
    by_cases q : i = j
    · subst q
      have hi : i < ρ.length := by
        have := (List.getElem?_eq_some_iff.mp e).1
        rwa [List.length_set] at this
      rw [List.getElem?_set_self hi] at e
      cases e
      exact ⟨some v, List.getElem?_set_self (by rw [r.len]; exact hi), v, rfl, h⟩
    · rw [List.getElem?_set_ne q] at e
      rw [List.getElem?_set_ne q]
      exact r.sl j s e
  dis := fun a b s t p ea eb sa sb xa xb => by
    have ha : i ≠ a := fun q => by
      subst q
      have hi : i < ρ.length := by
        have := (List.getElem?_eq_some_iff.mp ea).1
        rwa [List.length_set] at this
      rw [List.getElem?_set_self hi] at ea
      cases ea
      cases sa
    have hb : i ≠ b := fun q => by
      subst q
      have hi : i < ρ.length := by
        have := (List.getElem?_eq_some_iff.mp eb).1
        rwa [List.length_set] at this
      rw [List.getElem?_set_self hi] at eb
      cases eb
      cases sb
    rw [List.getElem?_set_ne ha] at ea xa
    rw [List.getElem?_set_ne hb] at eb xb
    exact r.dis a b s t p ea eb sa sb xa xb
/-- slots forgotten -/
def wipeS (ρ : List SV) : List Nat → List SV
  | [] => ρ
  | v :: vs => (wipeS ρ vs).set v .no
theorem Rp.setNo (r : Rp K Mb M B σ H ρ) {o : Option V} : Rp K Mb M B (σ.set i o) H (ρ.set i .no) where
  len := by rw [List.length_set, List.length_set, r.len]
  sl := fun j s e => by
    by_cases q : i = j
    · subst q
      have hi : i < ρ.length := by
        have := (List.getElem?_eq_some_iff.mp e).1
        rwa [List.length_set] at this
      rw [List.getElem?_set_self hi] at e
      cases e
      exact ⟨o, List.getElem?_set_self (by rw [r.len]; exact hi), trivial⟩
    · rw [List.getElem?_set_ne q] at e
      rw [List.getElem?_set_ne q]
      exact r.sl j s e
  dis := fun a b s t p ea eb sa sb xa xb => by
    have ha : i ≠ a := fun q => by
      subst q
      have hi : i < ρ.length := by
        have := (List.getElem?_eq_some_iff.mp ea).1
        rwa [List.length_set] at this
      rw [List.getElem?_set_self hi] at ea
      cases ea
      cases sa
    have hb : i ≠ b := fun q => by
      subst q
      have hi : i < ρ.length := by
        have := (List.getElem?_eq_some_iff.mp eb).1
        rwa [List.length_set] at this
      rw [List.getElem?_set_self hi] at eb
      cases eb
      cases sb
    rw [List.getElem?_set_ne ha] at ea xa
    rw [List.getElem?_set_ne hb] at eb xb
    exact r.dis a b s t p ea eb sa sb xa xb
theorem Rp.wipe (r : Rp K Mb M B σ H ρ) : ∀ vs : List Nat, Rp K Mb M B (L2.wipe σ vs) H (wipeS ρ vs)
  | [] => r
  | v :: vs => (Rp.wipe r vs).setNo
theorem KIs.keep {M M' : Addr → Prop} {H H' : Hp} (k : Kept M M' H H') {kvs : List (Key × D)} {vs : List (Key × V)} (i : KIs K M B H kvs vs) : KIs K M' B H' kvs vs := by
  induction i with
  | nil => exact .nil
  | cons h _ ih => exact .cons (Is.keep k (fun _ b => b) _ _ h) ih
/-- the own cells are kept too -/
theorem Rp.keep (r : Rp K Mb M B σ H ρ) (k : Kept M M' H H') (hm : ∀ a, M a → M' a) (ho : ∀ a, M a → ¬ Mb a → H' a = H a) : Rp K Mb M' B σ H' ρ where
  len := r.len
  sl := fun i s e => by
    obtain ⟨o, e1, q⟩ := r.sl i s e
    refine ⟨o, e1, ?_⟩
    cases s with
    | no => trivial
    | d d =>
      obtain ⟨v, e2, i2⟩ := q
      exact ⟨v, e2, Is.keep k (fun _ b => b) _ _ i2⟩
    | own ds =>
      obtain ⟨p, vs, e2, m, n, l, il⟩ := q
      exact ⟨p, vs, e2, hm p m, n, by rw [ho p m n]; exact l, k.isL il⟩
    | dct kvs =>
      obtain ⟨p, vs, e2, m, n, l, il⟩ := q
      exact ⟨p, vs, e2, hm p m, n, by rw [ho p m n]; exact l, il.keep k⟩
  dis := r.dis
theorem Ok.put (o : Ok Mb M B H) {p : Addr} {u : HO} (m : M p) (n : ¬ Mb p) (ni : ¬ Imm u) : Ok Mb M B (upd H p u) :=
  ⟨o.bm, o.mm, fun a ma => by
    by_cases e : a = p
    · subst e
      exact ⟨u, upd_same, ni⟩
    · rw [upd_ne e]
      exact o.tr a ma, fun a b => by
    obtain ⟨q, c, ds, h1, h2, h3, h4⟩ := o.bg a b
    have na : a ≠ p := fun e => n (by rw [← e]; exact o.bm a b)
    have nq : q ≠ p := fun e => h2 (by rw [e]; exact m)
    exact ⟨q, c, ds, by rw [upd_ne na]; exact h1, h2, by rw [upd_ne nq]; exact h3, h4⟩⟩
theorem Kept.put {p : Addr} {u w : HO} (m : M p) (h : H p = some w) (ni : ¬ Imm w) : Kept M M H (upd H p u) :=
  ⟨fun a xs n e => ⟨n, by rw [upd_ne (fun z => n (by rw [z]; exact m))]; exact e⟩, fun a o i e => by
    rw [upd_ne (fun z => ni (by rw [z, h] at e; cases e; exact i))]
    exact e⟩
/-- a cell joins the mutable ones -/
theorem Ok.join (o : Ok Mb M B H) {p : Addr} {u : HO} (h : H p = some u) (ni : ¬ Imm u) (hq : ∀ a, B a → ∃ q c, ∃ ds : List Int, H a = some (.lst [.ref q, .int c]) ∧ (¬ M q ∧ q ≠ p) ∧ H q = some (.lst (ds.map V.int)) ∧ ds.length = 400 ∧ (∀ d ∈ ds, 0 ≤ d ∧ d < 1000) ∧ 0 ≤ c) : Ok Mb (fun a => M a ∨ a = p) B H :=
  ⟨o.bm, fun a m => .inl (o.mm a m), fun a m => by
    rcases m with m | rfl
    · exact o.tr a m
    · exact ⟨u, h, ni⟩, fun a b => by
    obtain ⟨q, c, ds, h1, h2, h3⟩ := hq a b
    exact ⟨q, c, ds, h1, fun z => z.elim h2.1 h2.2, h3⟩⟩
theorem Ok.newM (o : Ok Mb M B H) {p : Addr} {u : HO} (h : H p = none) (ni : ¬ Imm u) : Ok Mb (fun a => M a ∨ a = p) B (upd H p u) := by
  refine (o.new (u := u) h).join upd_same ni fun a b => ?_
  obtain ⟨q, c, ds, h1, h2, h3, h4⟩ := o.bg a b
  refine ⟨q, c, ds, by rw [upd_ne (ne_of_none h1 h)]; exact h1, ⟨h2, ne_of_none h3 h⟩, by rw [upd_ne (ne_of_none h3 h)]; exact h3, h4⟩
/-- a cell that was not there when H was -/
theorem kept_ext (o : Ok Mb M B H) (e : Ext B H H') {p : Addr} (h : H p = none) : Kept M (fun a => M a ∨ a = p) H H' :=
  ⟨fun a xs n l => ⟨fun z => z.elim n fun q => ne_of_none l h q, e.k a _ l (o.nb n)⟩, fun a u i l => e.k a u l (o.nb (o.nmI l i))⟩
end

def GX {T : Type} (X : Cx) (tg : Expr) (is : List Nat) (ρ : List SV) (pat : D → W T) (st : T → List SV) : Prop := ∀ Mb M B σ H d v (P : T → Prop) (EE : Exn → Prop) (Q : L2.St → Hp → Prop), Ok Mb M B H → Rp X.K Mb M B σ H ρ → Is X.K M B H d v → pat d P EE →
  (∀ t σ', P t → SameBut is σ σ' → Rp X.K Mb M B σ' H (st t) → Q σ' H) → wG X tg v σ H Q
def GXs {T : Type} (X : Cx) (tgs : List Expr) (is : List Nat) (ρ : List SV) (pat : List D → W T) (st : T → List SV) : Prop := ∀ Mb M B σ H ds vs (P : T → Prop) (EE : Exn → Prop) (Q : L2.St → Hp → Prop), Ok Mb M B H → Rp X.K Mb M B σ H ρ → IsL X.K M B H ds vs → pat ds P EE →
  (∀ t σ', P t → SameBut is σ σ' → Rp X.K Mb M B σ' H (st t) → Q σ' H) → wGs X tgs vs σ H Q
def patOne {T : Type} (p : D → W T) : List D → W T
  | [d] => p d
  | _ => stuck
def patCons {T S : Type} (p : D → W T) (q : List D → W S) : List D → W (T × S)
  | d :: r => do let a ← p d; let b ← q r; pure (a, b)
  | [] => stuck
def patTup {T : Type} (n : Nat) (p : List D → W T) : D → W T
  | .tup ds => if ds.length = n then p ds else stuck
  | .pr ds => if ds.length = n then p ds else stuck
  | _ => stuck
section
variable {X : Cx} {ρ : List SV} {pos : Pos} {T S : Type}
theorem gx_name (i : Nat) {x : Str} {st : D → List SV} (hN : X.N.Nodup) (h : ∀ d, ρ.set i (.d d) = st d := by intros; rfl) (hi : X.N[i]? = some x := by rfl) (hx : Loc X.env.scope x := by first | exact .inl rfl | exact .inr rfl) (hf : X.fn x = true ∨ X.env.scope.names.lookup x = some .local := by first | exact .inl rfl | exact .inr rfl) : GX X (.Name x pos) [i] ρ pure st := by
  intro Mb M B σ H d v P EE Q o r is p q
  refine ⟨fun pins s u I ru => ?_⟩
  refine (pg_name hN hi hx hf).run pins s σ H v u Q I ru ?_
  have r2 := r.setD (i := i) is
  rw [h d] at r2
  exact q d _ p .set r2
theorem gxs_one {e : Expr} {is : List Nat} {pat : D → W T} {st : T → List SV} (h : GX X e is ρ pat st) (hs : (assignEach [e] X.env).map (·.2) = assign e X.env :: (assignEach [] X.env).map (·.2) := by rfl) : GXs X [e] is ρ (patOne pat) st := by
  intro Mb M B σ H ds vs P EE Q o r il p q
  refine ⟨fun pins s us I ru => ?_⟩
  have pe : PG X e (wG X e) := ⟨fun pins s σ H v u Q I ru h => h.run pins s u I ru⟩
  refine (pgs_cons pe pgs_nil hs).run pins s σ H vs us Q I ru ?_
  have one : ∃ d, ds = [d] := by
    have p0 : patOne pat ds P EE := p
    unfold patOne at p0
    split at p0
    · exact ⟨_, rfl⟩
    · exact False.elim p0
  obtain ⟨d, rfl⟩ := one
  obtain ⟨v, e, iv⟩ := isOne il
  refine ⟨v, [], e, ?_⟩
  exact h Mb M B σ H d v P EE _ o r iv p fun t σ' pt sb rp => ⟨rfl, q t σ' pt sb rp⟩
theorem gxs_cons {e : Expr} {es : List Expr} {is js : List Nat} {pat : D → W T} {st : T → List SV} {pat2 : List D → W S} {st2 : T → S → List SV} (h : GX X e is ρ pat st) (h2 : ∀ t, GXs X es js (st t) pat2 (st2 t)) (hs : (assignEach (e :: es) X.env).map (·.2) = assign e X.env :: (assignEach es X.env).map (·.2) := by rfl) :
    GXs X (e :: es) (is ++ js) ρ (patCons pat pat2) (fun t => st2 t.1 t.2) := by
  intro Mb M B σ H ds vs P EE Q o r il p q
  refine ⟨fun pins s us I ru => ?_⟩
  have pe : PG X e (wG X e) := ⟨fun pins s σ H v u Q I ru h => h.run pins s u I ru⟩
  have pes : PGs X es (wGs X es) := ⟨fun pins s σ H v u Q I ru h => h.run pins s u I ru⟩
  refine (pgs_cons pe pes hs).run pins s σ H vs us Q I ru ?_
  cases ds with
  | nil => exact False.elim p
  | cons d ds =>
    obtain ⟨v, rr, e, iv, il2⟩ := il
    refine ⟨v, rr, e, ?_⟩
    have p' : pat d (fun a => pat2 ds (fun b => P (a, b)) EE) EE := p
    refine h Mb M B σ H d v _ EE _ o r iv p' fun t σ' pt sb rp => ?_
    exact h2 t Mb M B σ' H ds rr _ EE _ o rp il2 pt fun t2 σ2 pt2 sb2 rp2 => q (t, t2) σ2 pt2 (sb.trans sb2) rp2
theorem gx_tup {es : List Expr} {k n : Nat} {is : List Nat} {pat : List D → W T} {st : T → List SV} (hc : X.calm = true) (h : GXs X es is ρ pat st) (hn : (assignEach es X.env).length = n := by rfl) (hst : (assignEach es X.env).findIdx? (·.1) = none := by rfl) : GX X (.Tuple es k pos) is ρ (patTup n pat) st := by
  intro Mb M B σ H d v P EE Q o r iv p q
  refine ⟨fun pins s u I ru => ?_⟩
  have pes : PGs X es (wGs X es) := ⟨fun pins s σ H v u Q I ru h => h.run pins s u I ru⟩
  refine (pg_tup hc pes hn hst).run pins s σ H v u Q I ru ?_
  have main : ∀ (ds : List D) (a : Addr) (xs : List V), v = .ref a → SqT X.K H a xs → IsL X.K M B H ds xs → (if ds.length = n then pat ds else stuck : W T) P EE → gTup X.K n (wGs X es) v σ H Q := fun ds a xs e l il p' => by
    by_cases hl : ds.length = n
    · rw [if_pos hl] at p'
      exact ⟨a, xs, e, l, by rw [il.len, hl], h Mb M B σ H ds xs P EE Q o r il p' q⟩
    · rw [if_neg hl] at p'
      exact False.elim p'
  cases d with
  | tup ds =>
    obtain ⟨a, xs, e, l, il⟩ := isT iv
    exact main ds a xs e l.sqT il p
  | pr ds =>
    obtain ⟨a, xs, e, l, il⟩ := iv
    exact main ds a xs e l il p
  | _ => exact False.elim p
end

/-! ### comprehensions -/
def calmW {α : Type} (m : W α) : W α := fun Q _ => m Q fun _ => False
theorem calm_run {α : Type} (m : W α) (Q : α → Prop) (E : Exn → Prop) : calmW m Q E = m Q fun _ => False := rfl
theorem calm_pure {α : Type} (a : α) : calmW (pure a : W α) = pure a := rfl
def compW : List D → (D → W (Option D)) → W (List D)
  | [], _ => pure []
  | d :: r, f => do let o ← calmW (f d); let xs ← compW r f; pure (o.toList ++ xs)
theorem compW_pure {f : D → W (Option D)} {g : D → Option D} : ∀ {ds : List D}, (∀ d ∈ ds, f d = pure (g d)) → compW ds f = pure (ds.filterMap g)
  | [], _ => rfl
  | d :: ds, h => by
    show (calmW (f d) >>= fun o => compW ds f >>= fun xs => pure (o.toList ++ xs)) = _
    rw [h d List.mem_cons_self, compW_pure fun x m => h x (List.mem_cons_of_mem _ m)]
    show (pure ((g d).toList ++ ds.filterMap g) : W (List D)) = _
    cases q : g d with
    | none => simp [q]
    | some y => simp [q]
abbrev Bk (X : Cx) (scope : Scope) (s : Shared) (H : Hp) (C : Addr) (cl : List (Str × Addr)) (fp : List Addr) : Cx := X.blk s H scope (compEnvC scope cl C X.env) fp
section
variable {X : Cx} {E : XK} {ρ : List SV} {pos : Pos} {T : Type}
theorem tlc_of {wi : TI} {vs : List Nat} {mi : W (List D)} {ρw : List SV} {is : List Nat} {pat : D → W T} {st : T → List SV} {mt : T → W Bool} {me : T → W D} {g : TG} {tt : TT} {te : TE}
    (hi : ∀ Mb M B σ H P EE R, Ok Mb M B H → Rp X.K Mb M B σ H ρ → mi P EE → PostI X Mb M B H P R → PostE X E Mb M B H EE → wi σ H R) (hw : wipeS ρ vs = ρw) (hs : ∀ i ∈ is, i ∈ vs)
    (hg : ∀ Mb M B σ H d v (P : T → Prop) (EE : Exn → Prop) (Q : L2.St → Hp → Prop), Ok Mb M B H → Rp X.K Mb M B σ H ρw → Is X.K M B H d v → pat d P EE → (∀ t σ', P t → SameBut is σ σ' → Rp X.K Mb M B σ' H (st t) → Q σ' H) → g v σ H Q)
    (ht : ∀ t Mb M B σ H P Q, Ok Mb M B H → Rp X.K Mb M B σ H (st t) → mt t P (fun _ => False) → PostT Mb M B H P Q → tt σ H Q)
    (he : ∀ t Mb M B σ H P Q, Ok Mb M B H → Rp X.K Mb M B σ H (st t) → me t P (fun _ => False) → Post X Mb M B H P Q → te σ H Q)
    {Mb M B : Addr → Prop} {σ : L2.St} {H : Hp} {P : List D → Prop} {EE : Exn → Prop} {Q : VK} (o : Ok Mb M B H) (rp : Rp X.K Mb M B σ H ρ)
    (p : (do let ds ← mi; need (ds.length ≤ line) (compW ds fun d => do let t ← pat d; let c ← mt t; if c then (do let x ← me t; pure (some x)) else pure none) : W (List D)) P EE) (q : PostF X Mb M B H P Q) (ee : PostE X E Mb M B H EE) :
    tLc wi g tt te vs σ H Q := by
  refine hi Mb M B σ H (fun ds => (need (ds.length ≤ line) (compW ds fun d => do let t ← pat d; let c ← mt t; if c then (do let x ← me t; pure (some x)) else pure none) : W (List D)) P EE) EE _ o rp p (fun ds J H1 pd g1 wk Dl nD => ?_) ee
  obtain ⟨hl, pd⟩ := pd
  have rw1 : Rp X.K Mb M B (L2.wipe σ vs) H1 ρw := by
    have := (rp.go o g1).wipe vs
    rwa [hw] at this
  have nM : ¬ M Dl := g1.ok.nm nD
  let f : D → W (Option D) := fun d => do let t ← pat d; let c ← mt t; if c then (do let x ← me t; pure (some x)) else pure none
  let M2 : Addr → Prop := fun a => M a ∨ a = Dl
  let St : Nat → Hp → Prop := fun i H' => ∃ accD accV, H' Dl = some (.lst accV) ∧ IsL X.K M2 B H' accD accV ∧ Ok Mb M2 B H' ∧ Ext B H1 H' ∧ accD.length ≤ i ∧ compW (ds.drop i) f (fun r => P (accD ++ r)) EE
  have nB : ¬ B Dl := fun b => nM (g1.ok.mm _ (g1.ok.bm _ b))
  have nMb : ¬ Mb Dl := fun b => nM (g1.ok.mm _ b)
  refine ⟨fun i m H' => m = ds.length - i ∧ i ≤ ds.length ∧ St i H', ⟨_, rfl, Nat.zero_le _, [], [], upd_same, rfl, g1.ok.newM nD not_imm_lst, Ext.new nD, Nat.le_refl _, pd⟩, fun i m H' ⟨em, hle, accD, accV, hD, il, o2, e2, la, pc⟩ => ?_⟩
  have k2 : Kept M M2 H1 H' := kept_ext g1.ok e2 nD
  have rp2 : Rp X.K Mb M2 B (L2.wipe σ vs) H' ρw := rw1.keep k2 (fun _ m => .inl m) fun a m n => by
    obtain ⟨u, hu, _⟩ := g1.ok.tr a m
    rw [hu]
    exact e2.k a u hu fun b => n (g1.ok.bm a b)
  by_cases hi : i < ds.length
  · refine .inr ⟨wk.go Mb M2 H' i o2 k2 hi, fun H' => St (i + 1) H', fun H' hs' => ⟨ds.length - (i + 1), by omega, rfl, hi, hs'⟩, fun x H3 y => ?_⟩
    have hd : ds[i]? = some ds[i] := List.getElem?_eq_getElem hi
    obtain ⟨g3, ix⟩ := wk.yl Mb M2 H' i _ x H3 o2 k2 hd y
    have pc' : f ds[i] (fun o => compW (ds.drop (i + 1)) f (fun xs => P (accD ++ (o.toList ++ xs))) EE) (fun _ => False) := by
      rw [List.drop_eq_getElem_cons hi] at pc
      exact pc
    refine hg Mb M2 B _ H3 ds[i] x _ (fun _ => False) _ g3.ok (rp2.go o2 g3) ix pc' fun t σ2 pt sb rt => ⟨wipe_same sb hs, ?_⟩
    refine ht t Mb M2 B σ2 H3 _ _ g3.ok rt pt fun c H4 pc4 g4 => ?_
    have fin : ∀ (od : Option D) (ov : List V) (H5 : Hp), Go Mb M2 B H' H5 → IsL X.K M2 B H5 od.toList ov → compW (ds.drop (i + 1)) f (fun xs => P (accD ++ (od.toList ++ xs))) EE → accD.length + od.toList.length ≤ i + 1 → St (i + 1) (upd H5 Dl (.lst (accV ++ ov))) := fun od ov H5 g5 i5 p5 l5 => by
      have h5 : H5 Dl = some (.lst accV) := g5.ext.k _ _ hD nB
      have kp : Kept M2 M2 H5 (upd H5 Dl (.lst (accV ++ ov))) := .put (.inr rfl) h5 not_imm_lst
      refine ⟨accD ++ od.toList, accV ++ ov, upd_same, kp.isL ((il.mono g5.ext o2).append i5), g5.ok.put (.inr rfl) nMb not_imm_lst, ⟨fun a u hu nb => ?_, fun a q c ba hq nc => ?_⟩, by rw [List.length_append]; exact l5, ?_⟩
      · rw [upd_ne (ne_of_none hu nD)]
        exact g5.ext.k a u (e2.k a u hu nb) nb
      · rw [upd_ne (ne_of_none hq nD)]
        exact (e2.trans g5.ext).b a q c ba hq nc
      · have e : (fun r => P (accD ++ od.toList ++ r)) = fun xs => P (accD ++ (od.toList ++ xs)) := by
          funext r
          rw [List.append_assoc]
        rw [e]
        exact p5
    cases c with
    | true =>
      show te σ2 H4 _
      refine he t Mb M2 B σ2 H4 _ _ g4.ok (rt.go g3.ok g4) pc4 fun z v H5 pz g5 iz => ?_
      have g35 := g3.trans (g4.trans g5)
      refine ⟨accV, g35.ext.k _ _ hD nB, ?_, fin (some z) [v] H5 g35 (.one iz) pz ?_⟩
      · rw [il.len]
        exact line_lt (by omega)
      · show accD.length + 1 ≤ i + 1
        omega
    | false =>
      show St (i + 1) H4
      have g34 := g3.trans g4
      have h := fin none [] H4 g34 rfl pc4 (by show accD.length + 0 ≤ i + 1; omega)
      have e : upd H4 Dl (.lst (accV ++ [])) = H4 := by
        rw [List.append_nil]
        funext b
        by_cases z : b = Dl
        · subst z
          rw [upd_same, g34.ext.k _ _ hD nB]
        · rw [upd_ne z]
      rw [e] at h
      exact h
  · have ei : i = ds.length := by omega
    refine .inl ⟨wk.st Mb M2 H' i o2 k2 (by omega), ?_⟩
    have pc' : P (accD ++ []) := by
      rw [List.drop_of_length_le (by omega)] at pc
      exact pc
    rw [List.append_nil] at pc'
    refine q accD Dl accV H' pc' ⟨g1.ext.trans e2, ⟨o.bm, o.mm, fun a m => o2.tr a (.inl m), fun a b => ?_⟩⟩ (g1.free o nD) hD il
    obtain ⟨q, c, es, h1, h2, h3⟩ := o2.bg a b
    exact ⟨q, c, es, h1, fun m => h2 (.inl m), h3⟩
def gAll (X : Cx) (scope : Scope) (tg : Expr) : TG := fun v σ H Q => ∀ s H0 C cl fp, wG (Bk X scope s H0 C cl fp) tg v σ H Q
def eAll (X : Cx) (scope : Scope) (e : Expr) : TE := fun σ H Q => ∀ s H0 C cl fp, wE (Bk X scope s H0 C cl fp) e σ H Q
def tAll (X : Cx) (scope : Scope) (e : Expr) : TT := fun σ H Q => ∀ s H0 C cl fp, wT (Bk X scope s H0 C cl fp) e σ H Q
variable {k : Nat} {elt tg iter c : Expr} {scope : Scope} {own : List (Str × Nat)} {mi : W (List D)} {ρw : List SV} {is : List Nat} {pat : D → W T} {st : T → List SV} {mt : T → W Bool} {me : T → W D}
theorem ef_lc (G : Cg X E k) (hi : IX X E tg iter ρ mi) (ok : BlkOk X.N X.env.scope scope own) (hw : wipeS ρ (own.map (·.2)) = ρw) (hs : ∀ i ∈ is, i ∈ own.map (·.2))
    (hg : ∀ s H0 C cl fp, GX (Bk X scope s H0 C cl fp) tg is ρw pat st) (he : ∀ s H0 C cl fp t, EX (Bk X scope s H0 C cl fp) E0 elt (st t) (me t)) (hf : ∀ x, foldedSetIterable iter X.env x = pure x := by intro _; rfl) :
    EF X E (.ListComp elt [⟨tg, iter, [], 0⟩] scope pos) ρ (do let ds ← mi; need (ds.length ≤ line) (compW ds fun d => do let t ← pat d; let x ← me t; pure (some x))) := by
  intro Mb M B σ H P EE Q o rp p q ee
  refine of_pe (pe_lc (g := gAll X scope tg) (tt := tYes) (te := eAll X scope elt) G.calm G.nd pi_w ok (fun s H0 C cl fp => ⟨fun pins s' σ' H' v u Q' I r h => (h s H0 C cl fp).run pins s' u I r⟩) (fun _ _ _ _ _ => pts_nil) (fun s H0 C cl fp => ⟨fun pins s' σ' H' Q' I h => (h s H0 C cl fp).run pins s' I⟩) hf) ?_
  exact tlc_of (mt := fun _ => pure true) (pat := pat) (me := me) (st := st) hi hw hs (fun Mb M B σ H d v P EE Q o r iv p q s H0 C cl fp => hg s H0 C cl fp Mb M B σ H d v P EE Q o r iv p q) (fun t Mb M B σ H P Q o r p q => q true H p (.refl o))
    (fun t Mb M B σ H P Q o r p q s H0 C cl fp => he s H0 C cl fp t Mb M B σ H P (fun _ => False) Q o r p q fun _ _ z => z.elim) o rp p q ee
theorem ef_lcIf (G : Cg X E k) (hi : IX X E tg iter ρ mi) (ok : BlkOk X.N X.env.scope scope own) (hw : wipeS ρ (own.map (·.2)) = ρw) (hs : ∀ i ∈ is, i ∈ own.map (·.2))
    (hg : ∀ s H0 C cl fp, GX (Bk X scope s H0 C cl fp) tg is ρw pat st) (ht : ∀ s H0 C cl fp t, ET (Bk X scope s H0 C cl fp) E0 c (st t) (mt t)) (he : ∀ s H0 C cl fp t, EX (Bk X scope s H0 C cl fp) E0 elt (st t) (me t)) (hf : ∀ x, foldedSetIterable iter X.env x = pure x := by intro _; rfl) :
    EF X E (.ListComp elt [⟨tg, iter, [c], 0⟩] scope pos) ρ (do let ds ← mi; need (ds.length ≤ line) (compW ds fun d => do let t ← pat d; let c ← mt t; if c then (do let x ← me t; pure (some x)) else pure none)) := by
  intro Mb M B σ H P EE Q o rp p q ee
  refine of_pe (pe_lc (g := gAll X scope tg) (tt := tAll X scope c) (te := eAll X scope elt) G.calm G.nd pi_w ok (fun s H0 C cl fp => ⟨fun pins s' σ' H' v u Q' I r h => (h s H0 C cl fp).run pins s' u I r⟩) (fun s H0 C cl fp => pts_one ⟨fun pins s' σ' H' Q' I h => (h s H0 C cl fp).run pins s' I⟩) (fun s H0 C cl fp => ⟨fun pins s' σ' H' Q' I h => (h s H0 C cl fp).run pins s' I⟩) hf) ?_
  exact tlc_of (mt := mt) (pat := pat) (me := me) (st := st) hi hw hs (fun Mb M B σ H d v P EE Q o r iv p q s H0 C cl fp => hg s H0 C cl fp Mb M B σ H d v P EE Q o r iv p q)
    (fun t Mb M B σ H P Q o r p q s H0 C cl fp => ht s H0 C cl fp t Mb M B σ H P (fun _ => False) Q o r p q fun _ _ z => z.elim)
    (fun t Mb M B σ H P Q o r p q s H0 C cl fp => he s H0 C cl fp t Mb M B σ H P (fun _ => False) Q o r p q fun _ _ z => z.elim) o rp p q ee
end
end DG

/-! ## DG7 -/
set_option Elab.async false
set_option linter.all false
set_option maxRecDepth 100000
set_option maxHeartbeats 4000000
namespace DG
open PySem PySem.Spec PyProof.Rows L2

/-! ### blocks -/
def wS (X : Cx) (st : Stmt) : TS := fun D σ H => Box (∀ pins s, Inv X pins σ H s → wpAny (model X.prog X.w) X.A (exec st X.env) (SP X pins D) X.xe s)
def wSs (X : Cx) (st : List Stmt) : TS := fun D σ H => Box (∀ pins s, Inv X pins σ H s → wpAny (model X.prog X.w) X.A (execs st X.env) (SP X pins D) X.xe s)
section
variable {X : Cx} {st : Stmt} {sts : List Stmt} {t : TS} {D : Ends} {σ : L2.St} {H : Hp}
theorem ps_w : PS X st (wS X st) := ⟨fun pins s σ H D I h => h.run pins s I⟩
theorem pss_w : PSs X sts (wSs X sts) := ⟨fun pins s σ H D I h => h.run pins s I⟩
theorem of_ps (h : PS X st t) (q : t D σ H) : wS X st D σ H := ⟨fun pins s I => h.run pins s σ H D I q⟩
theorem of_pss (h : PSs X sts t) (q : t D σ H) : wSs X sts D σ H := ⟨fun pins s I => h.run pins s σ H D I q⟩
end
/-- the base: what stands as it stood -/
structure Bs (Mb : Addr → Prop) (Hb : Hp) (M B : Addr → Prop) (H : Hp) : Prop where
  hb : Ext B Hb H
  mb : ∀ a, M a → Mb a ∨ Hb a = none
inductive Out (S : Type) where
  | nx (s : S)
  | rt (d : D)
section
variable (X : Cx) (E : XK)
def EndE (Mb B : Addr → Prop) (Hb : Hp) (EE : Exn → Prop) : Prop := ∀ x H', EE x → Ext B Hb H' → Ok Mb Mb B H' → ExW X E x H'
def EndR (Mb B : Addr → Prop) (Hb : Hp) (P : D → Prop) (rt : VK) : Prop := ∀ d v H', P d → Ext B Hb H' → Ok Mb Mb B H' → Is X.K Mb B H' d v → rt v H'
def EndN {S : Type} (Mb B : Addr → Prop) (Hb : Hp) (mk : S → List SV) (P : S → Prop) (nx : L2.St → Hp → Prop) : Prop := ∀ s M' σ' H', P s → Bs Mb Hb M' B H' → Ok Mb M' B H' → Rp X.K Mb M' B σ' H' (mk s) → nx σ' H'
/-- one statement that goes on -/
def S1 {S : Type} (st : Stmt) (ρ : List SV) (mk : S → List SV) (m : W S) : Prop := ∀ Mb B Hb M σ H P EE D, Bs Mb Hb M B H → Ok Mb M B H → Rp X.K Mb M B σ H ρ → m P EE → EndN X Mb B Hb mk P D.nx → EndE X E Mb B Hb EE → wS X st D σ H
def SN {S : Type} (st : List Stmt) (ρ : List SV) (mk : S → List SV) (m : W S) : Prop := ∀ Mb B Hb M σ H P EE D, Bs Mb Hb M B H → Ok Mb M B H → Rp X.K Mb M B σ H ρ → m P EE → EndN X Mb B Hb mk P D.nx → EndE X E Mb B Hb EE → wSs X st D σ H
/-- a block that returns (b: or comes to the def's end) -/
def SR (b : Bool) (st : List Stmt) (ρ : List SV) (m : W D) : Prop := ∀ Mb B Hb M σ H P EE (D : Ends), Bs Mb Hb M B H → Ok Mb M B H → Rp X.K Mb M B σ H ρ → m P EE → EndR X Mb B Hb P D.rt → (b = true → ∀ σ' H', D.rt .non H' → D.nx σ' H') → EndE X E Mb B Hb EE → wSs X st D σ H
/-- one statement, a block, that goes on or returns -/
def S2 {S : Type} (st : Stmt) (ρ : List SV) (mk : S → List SV) (m : W (Out S)) : Prop := ∀ Mb B Hb M σ H (P : Out S → Prop) EE (D : Ends), Bs Mb Hb M B H → Ok Mb M B H → Rp X.K Mb M B σ H ρ → m P EE → EndN X Mb B Hb mk (fun s => P (.nx s)) D.nx → EndR X Mb B Hb (fun d => P (.rt d)) D.rt → EndE X E Mb B Hb EE → wS X st D σ H
def SX {S : Type} (st : List Stmt) (ρ : List SV) (mk : S → List SV) (m : W (Out S)) : Prop := ∀ Mb B Hb M σ H (P : Out S → Prop) EE (D : Ends), Bs Mb Hb M B H → Ok Mb M B H → Rp X.K Mb M B σ H ρ → m P EE → EndN X Mb B Hb mk (fun s => P (.nx s)) D.nx → EndR X Mb B Hb (fun d => P (.rt d)) D.rt → EndE X E Mb B Hb EE → wSs X st D σ H
end
section
variable {K : PySem.W.Frag} {X : Cx} {E : XK} {Mb M M' B : Addr → Prop} {H H' Hb Hb' : Hp} {ρ ρ' : List SV} {σ : L2.St} {EE : Exn → Prop}
theorem Bs.go (b : Bs Mb Hb M B H) (g : Go Mb M B H H') : Bs Mb Hb M B H' := ⟨b.hb.trans g.ext, b.mb⟩
theorem EndE.post (h : EndE X E Mb B Hb EE) (b : Bs Mb Hb M B H) : PostE X E Mb M B H EE := fun x H' e g => h x H' e (b.go g).hb g.ok.down
/-- slots may be forgotten -/
def LeS : List SV → List SV → Prop
  | [], [] => True
  | a :: r, b :: t => (b = .no ∨ a = b) ∧ LeS r t
  | _, _ => False
theorem LeS.len : ∀ {ρ ρ' : List SV}, LeS ρ ρ' → ρ.length = ρ'.length
  | [], [], _ => rfl
  | a :: r, b :: t, h => by rw [List.length_cons, List.length_cons, LeS.len h.2]
  | [], _ :: _, h => h.elim
  | _ :: _, [], h => h.elim
theorem LeS.get : ∀ {ρ ρ' : List SV} {i : Nat} {s : SV}, LeS ρ ρ' → ρ'[i]? = some s → s = .no ∨ ρ[i]? = some s
  | [], [], _, _, _, e => by simp at e
  | a :: r, b :: t, 0, s, h, e => by
    have e' : b = s := Option.some.inj e
    subst e'
    rcases h.1 with z | z
    · exact .inl z
    · exact .inr (by rw [z]; rfl)
  | a :: r, b :: t, i + 1, s, h, e => LeS.get (i := i) h.2 e
  | [], _ :: _, _, _, h, _ => h.elim
  | _ :: _, [], _, _, h, _ => h.elim
theorem LeS.refl : ∀ {ρ : List SV}, LeS ρ ρ
  | [] => trivial
  | _ :: _ => ⟨.inr rfl, LeS.refl⟩
theorem Rp.le (r : Rp K Mb M B σ H ρ) (h : LeS ρ ρ') : Rp K Mb M B σ H ρ' where
  len := by rw [r.len, h.len]
  sl := fun i s e => by
    rcases h.get e with z | z
    · subst z
      have hi : i < σ.length := by
        rw [r.len, h.len]
        exact (List.getElem?_eq_some_iff.mp e).1
      exact ⟨_, List.getElem?_eq_getElem hi, trivial⟩
    · exact r.sl i s z
  dis := fun i j s t p ei ej si sj xi xj => by
    rcases h.get ei with z | z
    · subst z; cases si
    rcases h.get ej with w | w
    · subst w; cases sj
    exact r.dis i j s t p z w si sj xi xj
/-- all own lists frozen -/
def fzS : SV → SV
  | .own ds => .d (.lst ds)
  | .dct _ => .no
  | s => s
theorem Rp.fz (o : Ok Mb M B H) (r : Rp K Mb M B σ H ρ) : Rp K Mb Mb B σ H (ρ.map fzS) where
  len := by rw [List.length_map, r.len]
  sl := fun i s e => by
    rw [List.getElem?_map] at e
    cases q : ρ[i]? with
    | none => rw [q] at e; cases e
    | some t =>
      rw [q] at e
      cases e
      obtain ⟨x, e1, h⟩ := r.sl i t q
      refine ⟨x, e1, ?_⟩
      cases t with
      | no => trivial
      | d d =>
        obtain ⟨v, e2, iv⟩ := h
        exact ⟨v, e2, iv.less o.mm⟩
      | own ds =>
        obtain ⟨p, vs, e2, m, n, l, il⟩ := h
        exact ⟨.ref p, e2, p, vs, rfl, n, l, il.less o.mm⟩
      | dct kvs => trivial
  dis := fun i j s t p ei ej si sj xi xj => by
    rw [List.getElem?_map] at ei
    cases q : ρ[i]? with
    | none => rw [q] at ei; cases ei
    | some u =>
      rw [q] at ei
      cases ei
      cases u <;> cases si
/-- a new own list in slot i -/
theorem Rp.setOwn {i : Nat} {p : Addr} {sv : SV} (r : Rp K Mb M B σ H ρ) (hs : SlotIs K Mb M B H sv (some (.ref p))) (hn : ∀ j s, ρ[j]? = some s → s.isOwn = true → j ≠ i → σ[j]? ≠ some (some (.ref p))) : Rp K Mb M B (σ.set i (some (.ref p))) H (ρ.set i sv) where
  len := by rw [List.length_set, List.length_set, r.len]
  sl := fun j s e => by
    by_cases q : i = j
    · subst q
      have hi : i < ρ.length := by
        have := (List.getElem?_eq_some_iff.mp e).1
        rwa [List.length_set] at this
      rw [List.getElem?_set_self hi] at e
      cases e
      exact ⟨_, List.getElem?_set_self (by rw [r.len]; exact hi), hs⟩
    · rw [List.getElem?_set_ne q] at e
      rw [List.getElem?_set_ne q]
      exact r.sl j s e
  dis := fun a b s t q ea eb sa sb xa xb => by
    by_cases ha : i = a
    · by_cases hb : i = b
      · omega
      · subst ha
        rw [List.getElem?_set_ne hb] at eb xb
        have hi : i < σ.length := by
          have := (List.getElem?_eq_some_iff.mp xa).1
          rwa [List.length_set] at this
        rw [List.getElem?_set_self hi] at xa
        cases xa
        exact absurd xb (hn b t eb sb fun z => hb z.symm)
    · by_cases hb : i = b
      · subst hb
        rw [List.getElem?_set_ne ha] at ea xa
        have hi : i < σ.length := by
          have := (List.getElem?_eq_some_iff.mp xb).1
          rwa [List.length_set] at this
        rw [List.getElem?_set_self hi] at xb
        cases xb
        exact absurd xa (hn a s ea sa fun z => ha z.symm)
      · rw [List.getElem?_set_ne ha] at ea xa
        rw [List.getElem?_set_ne hb] at eb xb
        exact r.dis a b s t q ea eb sa sb xa xb
/-- the address of an own slot is tracked -/
theorem Rp.own_at (r : Rp K Mb M B σ H ρ) {j : Nat} {s : SV} (e : ρ[j]? = some s) (h : s.isOwn = true) : ∃ p, σ[j]? = some (some (.ref p)) ∧ M p ∧ ¬ Mb p ∧ ∃ u, H p = some u := by
  obtain ⟨x, e1, q⟩ := r.sl j s e
  cases s with
  | no => cases h
  | d d => cases h
  | own ds =>
    obtain ⟨p, vs, e2, m, n, l, _⟩ := q
    exact ⟨p, by rw [e1, e2], m, n, _, l⟩
  | dct ds =>
    obtain ⟨p, vs, e2, m, n, l, _⟩ := q
    exact ⟨p, by rw [e1, e2], m, n, _, l⟩
theorem Bs.join (b : Bs Mb Hb M B H) {p : Addr} (n : Hb p = none) : Bs Mb Hb (fun a => M a ∨ a = p) B H := ⟨b.hb, fun a m => m.elim (b.mb a) fun e => .inr (by rw [e]; exact n)⟩
theorem Bs.no (b : Bs Mb Hb M B H) (o : Ok Mb M B H) {p : Addr} (n : H p = none) : Hb p = none := by
  cases q : Hb p with
  | none => rfl
  | some u =>
    rw [b.hb.k p u q fun z => o.nm n (o.mm _ (o.bm _ z))] at n
    cases n
/-- behind a new list: it may be an own one -/
theorem own_new {sv : SV} (o : Ok Mb M B H) (bs : Bs Mb Hb M B H) (r : Rp K Mb M B σ H ρ) (g : Go Mb M B H H') {p : Addr} {u : HO} (n : H p = none) (l : H' p = some u) (ni : ¬ Imm u) (i : Nat) (hs : SlotIs K Mb (fun a => M a ∨ a = p) B H' sv (some (.ref p))) :
    Bs Mb Hb (fun a => M a ∨ a = p) B H' ∧ Ok Mb (fun a => M a ∨ a = p) B H' ∧ Rp K Mb (fun a => M a ∨ a = p) B (σ.set i (some (.ref p))) H' (ρ.set i sv) := by
  have kp : Kept M (fun a => M a ∨ a = p) H H' := kept_ext o g.ext n
  have r2 : Rp K Mb (fun a => M a ∨ a = p) B σ H' ρ := r.keep kp (fun _ m => .inl m) fun a m nb => by
    obtain ⟨w, hw, _⟩ := o.tr a m
    rw [hw]
    exact g.ext.k a w hw fun b => nb (o.bm a b)
  refine ⟨(bs.go g).join (bs.no o n), ?_, r2.setOwn hs fun j s e h _ => ?_⟩
  · refine g.ok.join l ni fun a b => ?_
    obtain ⟨q, c, ds, h1, h2, h3, h4, h5, h6⟩ := o.bg a b
    obtain ⟨c', h7, h8⟩ := g.ext.b a q c b h1 h6
    exact ⟨q, c', ds, h8, ⟨h2, ne_of_none h3 n⟩, g.ext.k q _ h3 fun z => h2 (o.mm _ (o.bm _ z)), h4, h5, h7⟩
  · obtain ⟨p2, e2, m2, n2, w, hw⟩ := r.own_at e h
    rw [e2]
    intro z
    cases z
    rw [n] at hw
    cases hw
end

/-! ### single statements -/
section
variable {X : Cx} {E : XK} {ρ : List SV} {pos : Pos} {S T : Type} {k : Nat}
theorem s1_set (i : Nat) {x : Str} {e : Expr} {m : W D} {mk : D → List SV} {pos' : Pos} (hN : X.N.Nodup) (he : EX X E e ρ m) (h : ∀ d, ρ.set i (.d d) = mk d := by intros; rfl) (hi : X.N[i]? = some x := by rfl) (hx : Loc X.env.scope x := by first | exact .inl rfl | exact .inr rfl)
    (hs : swapsWith e (some (.Name x pos')) pos.line X.env = pure false := by rfl) (hf : X.fn x = true ∨ X.env.scope.names.lookup x = some .local := by first | exact .inl rfl | exact .inr rfl) : S1 X E (.Assign [.Name x pos'] e pos) ρ mk m := by
  intro Mb B Hb M σ H P EE D bs o r p en ee
  refine of_ps (ps_set hN hi hx pe_w hs hf) ?_
  refine he Mb M B σ H P EE _ o r p (fun d v H1 pd g1 iv => ?_) (ee.post bs)
  have r2 := (r.go o g1).setD (i := i) iv
  rw [h d] at r2
  exact en d M _ H1 pd (bs.go g1) g1.ok r2
theorem s1_own (i : Nat) {x : Str} {e : Expr} {m : W (List D)} {mk : List D → List SV} {pos' : Pos} (hN : X.N.Nodup) (he : EF X E e ρ m) (h : ∀ d, ρ.set i (.own d) = mk d := by intros; rfl) (hi : X.N[i]? = some x := by rfl) (hx : Loc X.env.scope x := by first | exact .inl rfl | exact .inr rfl)
    (hs : swapsWith e (some (.Name x pos')) pos.line X.env = pure false := by rfl) (hf : X.fn x = true ∨ X.env.scope.names.lookup x = some .local := by first | exact .inl rfl | exact .inr rfl) : S1 X E (.Assign [.Name x pos'] e pos) ρ mk m := by
  intro Mb B Hb M σ H P EE D bs o r p en ee
  refine of_ps (ps_set hN hi hx pe_w hs hf) ?_
  refine he Mb M B σ H P EE _ o r p (fun ds q vs H1 pd g1 n l il => ?_) (ee.post bs)
  obtain ⟨b2, o2, r2⟩ := own_new (sv := .own ds) o bs r g1 n l not_imm_lst i ⟨q, vs, rfl, .inr rfl, fun z => o.nm n (o.mm q z), l, il⟩
  rw [h ds] at r2
  exact en ds _ _ H1 pd b2 o2 r2
/-- a value that is dropped -/
theorem s1_expr {e : Expr} {m : W D} (he : EX X E e ρ m) (hs : swapsWith e none pos.line X.env = pure false := by rfl) : S1 X E (.Expr e pos) ρ (fun _ : D => ρ) m := by
  intro Mb B Hb M σ H P EE D bs o r p en ee
  refine of_ps (ps_expr pe_w hs) ?_
  exact he Mb M B σ H P EE _ o r p (fun d v H1 pd g1 iv => en d M σ H1 pd (bs.go g1) g1.ok (r.go o g1)) (ee.post bs)
/-- targets = value -/
theorem s1_unp {tg e : Expr} {m : W D} {is : List Nat} {pat : D → W T} {st : T → List SV} (he : EX X E e ρ m) (hg : GX X tg is ρ pat st) (hs : swapsWithSole [tg] e pos.line X.env = pure false := by rfl) (hw : swappedStores [tg] e X.env = pure none := by rfl)
    (h1 : (assignEach [tg] X.env).map (·.2) = [assign tg X.env] := by rfl) : S1 X E (.Assign [tg] e pos) ρ st (do let d ← m; pat d) := by
  intro Mb B Hb M σ H P EE D bs o r p en ee
  have pg : PG X tg (wG X tg) := ⟨fun pins s σ H v u Q I r h => h.run pins s u I r⟩
  refine of_ps (ps_asg pe_w pg hs hw h1) ?_
  refine he Mb M B σ H (fun d => pat d P EE) EE _ o r p (fun d v H1 pd g1 iv => ?_) (ee.post bs)
  exact hg Mb M B σ H1 d v P EE _ g1.ok (r.go o g1) iv pd fun t σ' pt _ rt => en t M σ' H1 pt (bs.go g1) g1.ok rt
/-- x.append(e), x an own list -/
theorem s1_app (i : Nat) {x : Str} {e : Expr} {m : W D} {ds : List D} {mk : List D → List SV} {p1 p2 cpos : Pos} (h0 : ρ[i]? = some (.own ds)) (he : EX X E e ρ m) (h : ∀ d, ρ.set i (.own d) = mk d := by intros; rfl) (hN : X.N[i]? = some x := by rfl)
    (hv : Vis X.env.scope x := by first | exact Or.inl rfl | exact Or.inr (Or.inl rfl) | exact Or.inr (Or.inr rfl)) (hd : (x == ("__debug__" : Str)) = false := by decide) (hcd : (x == ("__classdict__" : Str)) = false := by decide)
    (hs : swapsWith (.Call (.Attribute (.Name x p1) "append" p2) [e] [] cpos) none pos.line X.env = pure false := by rfl)
    (hbase : attributeBase (.Name x p1) "append" X.env (eval (.Name x p1) X.env) = eval (.Name x p1) X.env := by rfl)
    (hfew : ((backTo cpos (starEach [e] X.env)).all (fun x => !x.1) && (backToKw cpos (keywordEach [] X.env)).all (fun x => x.1.isSome)
      && decide ([e].length + ([] : List Keyword).length + (if ([] : List Keyword).isEmpty then 0 else 1) < 30)) = true := by rfl)
    (hline : (p2.endLine == cpos.line) = true := by rfl) (hst : starEach [e] X.env = (false, eval e X.env) :: starEach [] X.env := by rfl) (hplain : (backTo cpos (starEach [] X.env)).any (·.1) = false := by rfl) :
    S1 X E (.Expr (.Call (.Attribute (.Name x p1) "append" p2) [e] [] cpos) pos) ρ mk (do let d ← m; need (ds.length < line) (pure (ds ++ [d]))) := by
  intro Mb B Hb M σ H P EE D bs o r p en ee
  refine of_ps (ps_expr (pe_bm PySem.F.plainAttrs_list PySem.F.slot_list_append PySem.F.type_list_append mt_append (pe_var hN hv hd hcd) (pa_cons pe_w pa_nil hst) hbase hfew hline hst hplain) hs) ?_
  obtain ⟨x0, e0, q, vs, e1, mp, np, l, il⟩ := r.sl i _ h0
  refine ⟨.ref q, by rw [e0, e1], .inl ⟨rfl, vs, .of l⟩, ?_⟩
  refine he Mb M B σ H (fun d => (need (ds.length < line) (pure (ds ++ [d])) : W (List DG.D)) P EE) EE _ o r p (fun d v H1 pd g1 iv => ?_) (ee.post bs)
  have nB : ¬ B q := fun b => np (o.bm q b)
  have l1 : H1 q = some (.lst vs) := g1.ext.k q _ l nB
  refine ⟨q, vs, v, rfl, rfl, l1, by rw [il.len]; exact line_lt pd.1, ?_⟩
  have kp : Kept M M H1 (upd H1 q (.lst (vs ++ [v]))) := .put mp l1 not_imm_lst
  have o2 : Ok Mb M B (upd H1 q (.lst (vs ++ [v]))) := g1.ok.put mp np not_imm_lst
  have b1 := bs.go g1
  have hq : Hb q = none := (bs.mb q mp).resolve_left np
  have b2 : Bs Mb Hb M B (upd H1 q (.lst (vs ++ [v]))) := ⟨⟨fun a u e nb => by rw [upd_ne (ne_of_none e hq)]; exact b1.hb.k a u e nb, fun a q' c ba e nc => by rw [upd_ne (ne_of_none e hq)]; exact b1.hb.b a q' c ba e nc⟩, b1.mb⟩
  have r1 := r.go o g1
  have r2 : Rp X.K Mb M B σ (upd H1 q (.lst (vs ++ [v]))) (ρ.set i .no) := by
    have rn := (r1.setNo (i := i) (o := some (.ref q)))
    have es : σ.set i (some (.ref q)) = σ := by
      apply List.ext_getElem?
      intro j
      by_cases z : i = j
      · subst z
        have hi := (List.getElem?_eq_some_iff.mp e0).1
        rw [List.getElem?_set_self hi, e0, e1]
      · rw [List.getElem?_set_ne z]
    rw [es] at rn
    refine ⟨rn.len, fun j s e => ?_, rn.dis⟩
    obtain ⟨y, ey, sy⟩ := rn.sl j s e
    refine ⟨y, ey, ?_⟩
    have hij : s.isOwn = true → j ≠ i := fun z w => by
      subst w
      have hi : j < ρ.length := (List.getElem?_eq_some_iff.mp h0).1
      rw [List.getElem?_set_self hi] at e
      cases e
      cases z
    have other : ∀ p', s.isOwn = true → y = some (.ref p') → p' ≠ q := fun p' z w w2 => by
      have hj := hij z
      have e' : ρ[j]? = some s := by rwa [List.getElem?_set_ne (Ne.symm hj)] at e
      exact hj (r.dis j i s _ p' e' h0 z rfl (by rw [ey, w]) (by rw [e0, e1, w2]))
    cases s with
    | no => trivial
    | d d => obtain ⟨w, e2, iw⟩ := sy; exact ⟨w, e2, Is.keep kp (fun _ b => b) _ _ iw⟩
    | own es =>
      obtain ⟨p', ws, e2, m', n', l', il'⟩ := sy
      exact ⟨p', ws, e2, m', n', by rw [upd_ne (other p' rfl e2)]; exact l', kp.isL il'⟩
    | dct es =>
      obtain ⟨p', ws, e2, m', n', l', il'⟩ := sy
      exact ⟨p', ws, e2, m', n', by rw [upd_ne (other p' rfl e2)]; exact l', il'.keep kp⟩
  have r3 := r2.setOwn (i := i) (p := q) (sv := .own (ds ++ [d])) ⟨q, vs ++ [v], rfl, mp, np, upd_same, kp.isL ((il.mono g1.ext o).append (.one iv))⟩ fun j s e z w => by
    rw [List.getElem?_set_ne (Ne.symm w)] at e
    intro x
    exact w (r.dis j i s _ q e h0 z rfl x (by rw [e0, e1]))
  have es : σ.set i (some (.ref q)) = σ := by
    apply List.ext_getElem?
    intro j
    by_cases z : i = j
    · subst z
      have hi := (List.getElem?_eq_some_iff.mp e0).1
      rw [List.getElem?_set_self hi, e0, e1]
    · rw [List.getElem?_set_ne z]
  rw [es, List.set_set, h] at r3
  exact en _ M σ _ pd.2 b2 o2 r3
theorem s1_pass : S1 X E (.Pass pos) ρ (fun _ : Unit => ρ) (pure ()) := by
  intro Mb B Hb M σ H P EE D bs o r p en ee
  exact of_ps ps_pass (en () M σ H p bs o r)

/-! ### blocks put together -/
theorem sn_nil {mk : S → List SV} {s : S} (h : LeS ρ (mk s)) : SN X E [] ρ mk (pure s) := by
  intro Mb B Hb M σ H P EE D bs o r p en ee
  exact of_pss pss_nil (en s M σ H p bs o (r.le h))
theorem sn_cons {s : Stmt} {rest : List Stmt} {mk : S → List SV} {mk1 : T → List SV} {m : W T} {n : T → W S} (h : S1 X E s ρ mk1 m) (hr : ∀ t, SN X E rest (mk1 t) mk (n t)) : SN X E (s :: rest) ρ mk (do let t ← m; n t) := by
  intro Mb B Hb M σ H P EE D bs o r p en ee
  refine of_pss (pss_cons ps_w pss_w) ?_
  exact h Mb B Hb M σ H (fun t => n t P EE) EE _ bs o r p (fun t M' σ' H' pt b2 o2 r2 => hr t Mb B Hb M' σ' H' P EE D b2 o2 r2 pt en ee) ee
theorem sr_nil : SR X E true [] ρ (pure .non) := by
  intro Mb B Hb M σ H P EE D bs o r p er hn ee
  exact of_pss pss_nil (hn rfl σ H (er .non .non H p bs.hb o.down rfl))
theorem sr_cons {b : Bool} {s : Stmt} {rest : List Stmt} {mk1 : T → List SV} {m : W T} {n : T → W DG.D} (h : S1 X E s ρ mk1 m) (hr : ∀ t, SR X E b rest (mk1 t) (n t)) : SR X E b (s :: rest) ρ (do let t ← m; n t) := by
  intro Mb B Hb M σ H P EE D bs o r p er hn ee
  refine of_pss (pss_cons ps_w pss_w) ?_
  exact h Mb B Hb M σ H (fun t => n t P EE) EE _ bs o r p (fun t M' σ' H' pt b2 o2 r2 => hr t Mb B Hb M' σ' H' P EE D b2 o2 r2 pt er hn ee) ee
/-- return e: what was own is frozen -/
theorem sr_ret {b : Bool} {e : Expr} {rest : List Stmt} {ρ' : List SV} {m : W DG.D} (he : EX X E e ρ' m) (h : ρ.map fzS = ρ' := by rfl) : SR X E b (.Return (some e) pos :: rest) ρ m := by
  intro Mb B Hb M σ H P EE D bs o r p er hn ee
  refine of_pss (pss_cons (ps_ret pe_w) (pss_never)) ?_
  have r2 := r.fz o
  rw [h] at r2
  have b2 : Bs Mb Hb Mb B H := ⟨bs.hb, fun a m => .inl m⟩
  exact he Mb Mb B σ H P EE _ o.down r2 p (fun d v H1 pd g1 iv => er d v H1 pd (b2.go g1).hb g1.ok iv) (ee.post b2)
/-- if c: a / rest, where a returns -/
theorem sr_ifr {b : Bool} {c : Expr} {a rest : List Stmt} {mc : W Bool} {ma n : W DG.D} (hc : ET X E c ρ mc) (ha : SR X E false a ρ ma) (hr : SR X E b rest ρ n) : SR X E b (.If c a [] pos :: rest) ρ (do let t ← mc; if t then ma else n) := by
  intro Mb B Hb M σ H P EE D bs o r p er hn ee
  refine of_pss (pss_cons (ps_if pt_w pss_w pss_nil) pss_w) ?_
  refine hc Mb M B σ H (fun t => (if t then ma else n : W DG.D) P EE) EE _ o r p (fun t H1 pt g1 => ?_) (ee.post bs)
  cases t with
  | true => exact ha Mb B Hb M σ H1 P EE _ (bs.go g1) g1.ok (r.go o g1) pt er (fun z => nomatch z) ee
  | false => exact hr Mb B Hb M σ H1 P EE D (bs.go g1) g1.ok (r.go o g1) pt er hn ee
/-- .. at the end, both ways -/
theorem sr_if {b : Bool} {c : Expr} {a a' : List Stmt} {mc : W Bool} {ma n : W DG.D} (hc : ET X E c ρ mc) (ha : SR X E b a ρ ma) (hr : SR X E b a' ρ n) : SR X E b [.If c a a' pos] ρ (do let t ← mc; if t then ma else n) := by
  intro Mb B Hb M σ H P EE D bs o r p er hn ee
  refine of_pss (pss_one (ps_if pt_w pss_w pss_w)) ?_
  refine hc Mb M B σ H (fun t => (if t then ma else n : W DG.D) P EE) EE _ o r p (fun t H1 pt g1 => ?_) (ee.post bs)
  cases t with
  | true => exact ha Mb B Hb M σ H1 P EE D (bs.go g1) g1.ok (r.go o g1) pt er hn ee
  | false => exact hr Mb B Hb M σ H1 P EE D (bs.go g1) g1.ok (r.go o g1) pt er hn ee
def outW {S : Type} (k : S → W DG.D) : Out S → W DG.D
  | .nx s => k s
  | .rt d => pure d
theorem sr_cons2 {b : Bool} {s : Stmt} {rest : List Stmt} {mk1 : T → List SV} {m : W (Out T)} {n : T → W DG.D} (h : S2 X E s ρ mk1 m) (hr : ∀ t, SR X E b rest (mk1 t) (n t)) : SR X E b (s :: rest) ρ (do let t ← m; outW n t) := by
  intro Mb B Hb M σ H P EE D bs o r p er hn ee
  refine of_pss (pss_cons ps_w pss_w) ?_
  exact h Mb B Hb M σ H (fun t => outW n t P EE) EE _ bs o r p (fun t M' σ' H' pt b2 o2 r2 => hr t Mb B Hb M' σ' H' P EE D b2 o2 r2 pt er hn ee) (fun d v H' pd sb o2 iv => er d v H' pd sb o2 iv) ee
theorem sx_nil {mk : S → List SV} {s : S} (h : LeS ρ (mk s)) : SX X E [] ρ mk (pure (.nx s)) := by
  intro Mb B Hb M σ H P EE D bs o r p en er ee
  exact of_pss pss_nil (en s M σ H p bs o (r.le h))
theorem sx_cons {s : Stmt} {rest : List Stmt} {mk : S → List SV} {mk1 : T → List SV} {m : W T} {n : T → W (Out S)} (h : S1 X E s ρ mk1 m) (hr : ∀ t, SX X E rest (mk1 t) mk (n t)) : SX X E (s :: rest) ρ mk (do let t ← m; n t) := by
  intro Mb B Hb M σ H P EE D bs o r p en er ee
  refine of_pss (pss_cons ps_w pss_w) ?_
  exact h Mb B Hb M σ H (fun t => n t P EE) EE _ bs o r p (fun t M' σ' H' pt b2 o2 r2 => hr t Mb B Hb M' σ' H' P EE D b2 o2 r2 pt en er ee) ee
theorem sx_sr {ss : List Stmt} {mk : S → List SV} {m : W DG.D} (h : SR X E false ss ρ m) : SX X E ss ρ mk (do let d ← m; pure (.rt d)) := by
  intro Mb B Hb M σ H P EE D bs o r p en er ee
  exact h Mb B Hb M σ H (fun d => P (.rt d)) EE D bs o r p er (fun z => nomatch z) ee
def out2W {S T : Type} (k : T → W (Out S)) : Out T → W (Out S)
  | .nx s => k s
  | .rt d => pure (.rt d)
theorem sx_cons2 {s : Stmt} {rest : List Stmt} {mk : S → List SV} {mk1 : T → List SV} {m : W (Out T)} {n : T → W (Out S)} (h : S2 X E s ρ mk1 m) (hr : ∀ t, SX X E rest (mk1 t) mk (n t)) : SX X E (s :: rest) ρ mk (do let t ← m; out2W n t) := by
  intro Mb B Hb M σ H P EE D bs o r p en er ee
  refine of_pss (pss_cons ps_w pss_w) ?_
  exact h Mb B Hb M σ H (fun t => out2W n t P EE) EE _ bs o r p (fun t M' σ' H' pt b2 o2 r2 => hr t Mb B Hb M' σ' H' P EE D b2 o2 r2 pt en er ee) (fun d v H' pd sb o2 iv => er d v H' pd sb o2 iv) ee
theorem sx_ifr {c : Expr} {a rest : List Stmt} {mk : S → List SV} {mc : W Bool} {ma : W DG.D} {n : W (Out S)} (hc : ET X E c ρ mc) (ha : SR X E false a ρ ma) (hr : SX X E rest ρ mk n) : SX X E (.If c a [] pos :: rest) ρ mk (do let t ← mc; if t then (do let d ← ma; pure (.rt d)) else n) := by
  intro Mb B Hb M σ H P EE D bs o r p en er ee
  refine of_pss (pss_cons (ps_if pt_w pss_w pss_nil) pss_w) ?_
  refine hc Mb M B σ H (fun t => (if t then (do let d ← ma; pure (.rt d)) else n : W (Out S)) P EE) EE _ o r p (fun t H1 pt g1 => ?_) (ee.post bs)
  cases t with
  | true => exact ha Mb B Hb M σ H1 (fun d => P (.rt d)) EE _ (bs.go g1) g1.ok (r.go o g1) pt er (fun z => nomatch z) ee
  | false => exact hr Mb B Hb M σ H1 P EE D (bs.go g1) g1.ok (r.go o g1) pt en er ee
theorem s1_if {c : Expr} {a a' : List Stmt} {mk : S → List SV} {mc : W Bool} {ma n : W S} (hc : ET X E c ρ mc) (ha : SN X E a ρ mk ma) (hr : SN X E a' ρ mk n) : S1 X E (.If c a a' pos) ρ mk (do let t ← mc; if t then ma else n) := by
  intro Mb B Hb M σ H P EE D bs o r p en ee
  refine of_ps (ps_if pt_w pss_w pss_w) ?_
  refine hc Mb M B σ H (fun t => (if t then ma else n : W S) P EE) EE _ o r p (fun t H1 pt g1 => ?_) (ee.post bs)
  cases t with
  | true => exact ha Mb B Hb M σ H1 P EE D (bs.go g1) g1.ok (r.go o g1) pt en ee
  | false => exact hr Mb B Hb M σ H1 P EE D (bs.go g1) g1.ok (r.go o g1) pt en ee
theorem s2_if {c : Expr} {a a' : List Stmt} {mk : S → List SV} {mc : W Bool} {ma n : W (Out S)} (hc : ET X E c ρ mc) (ha : SX X E a ρ mk ma) (hr : SX X E a' ρ mk n) : S2 X E (.If c a a' pos) ρ mk (do let t ← mc; if t then ma else n) := by
  intro Mb B Hb M σ H P EE D bs o r p en er ee
  refine of_ps (ps_if pt_w pss_w pss_w) ?_
  refine hc Mb M B σ H (fun t => (if t then ma else n : W (Out S)) P EE) EE _ o r p (fun t H1 pt g1 => ?_) (ee.post bs)
  cases t with
  | true => exact ha Mb B Hb M σ H1 P EE D (bs.go g1) g1.ok (r.go o g1) pt en er ee
  | false => exact hr Mb B Hb M σ H1 P EE D (bs.go g1) g1.ok (r.go o g1) pt en er ee
end

/-! ### loops -/
def forW {S : Type} : List D → S → (D → S → W S) → W S
  | [], s, _ => pure s
  | d :: r, s, f => do let s' ← f d s; forW r s' f
def forX {S : Type} : List D → S → (D → S → W (Out S)) → W (Out S)
  | [], s, _ => pure (.nx s)
  | d :: r, s, f => do let x ← f d s; out2W (fun s' => forX r s' f) x
open Classical in
/-- the base of a loop: the frozen cells too -/
noncomputable def baseL (Hb : Hp) (M : Addr → Prop) (H : Hp) : Hp := fun a => if M a then Hb a else H a
section
variable {Mb M M' B : Addr → Prop} {Hb H H' : Hp}
theorem baseL_in {a : Addr} (m : M a) : baseL Hb M H a = Hb a := by
  unfold baseL
  rw [if_pos m]
theorem baseL_out {a : Addr} (m : ¬ M a) : baseL Hb M H a = H a := by
  unfold baseL
  rw [if_neg m]
theorem Bs.loop (b : Bs Mb Hb M B H) (o : Ok Mb M B H) : Bs Mb (baseL Hb M H) M B H where
  hb := ⟨fun a u e n => by
    by_cases m : M a
    · rw [baseL_in m] at e
      exact b.hb.k a u e n
    · rw [baseL_out m] at e
      exact e, fun a q c z e n => by
    rw [baseL_in (o.mm a (o.bm a z))] at e
    exact b.hb.b a q c z e n⟩
  mb := fun a m => by
    rw [baseL_in m]
    exact b.mb a m
theorem Ext.unloop (b : Bs Mb Hb M B H) (o : Ok Mb M B H) (h : Ext B (baseL Hb M H) H') : Ext B Hb H' := ⟨fun a u e n => h.k a u (by
  by_cases m : M a
  · rw [baseL_in m]; exact e
  · rw [baseL_out m]; exact b.hb.k a u e n) n, fun a q c z e n => h.b a q c z (by rw [baseL_in (o.mm a (o.bm a z))]; exact e) n⟩
theorem Bs.unloop (b : Bs Mb Hb M B H) (o : Ok Mb M B H) (h : Bs Mb (baseL Hb M H) M' B H') : Bs Mb Hb M' B H' where
  hb := Ext.unloop b o h.hb
  mb := fun a m => by
    rcases h.mb a m with z | z
    · exact .inl z
    · refine .inr ?_
      by_cases q : M a
      · rw [baseL_in q] at z; exact z
      · rw [baseL_out q] at z; exact b.no o z
theorem Bs.kept (o : Ok Mb M B H) (h : Bs Mb (baseL Hb M H) M' B H') : Kept M M' H H' where
  ls := fun a xs n e => by
    have e' : baseL Hb M H a = some (.lst xs) := by rw [baseL_out n]; exact e
    refine ⟨fun m => ?_, h.hb.k a _ e' (o.nb n)⟩
    rcases h.mb a m with z | z
    · exact n (o.mm a z)
    · rw [e'] at z; cases z
  im := fun a u i e => h.hb.k a u (by rw [baseL_out (o.nmI e i)]; exact e) (o.nb (o.nmI e i))
end
section
variable {X : Cx} {E : XK} {ρ : List SV} {pos : Pos} {S T : Type} {k : Nat}
theorem s2_for {tg iter : Expr} {body : List Stmt} {mi : W (List D)} {mk : S → List SV} {s0 : S} {is : List Nat} {pat : D → W T} {st : S → T → List SV} {f : T → S → W (Out S)} (hp : PassesOwn (model X.prog X.w) X.A X.env X.xe) (hc : X.calm = true)
    (hi : IX X E tg iter ρ mi) (h0 : LeS ρ (mk s0)) (hg : ∀ s, GX X tg is (mk s) pat (st s)) (hb : ∀ s t, SX X E body (st s t) mk (f t s)) (hs : ∀ x, foldedSetIterable iter X.env x = pure x := by intro _; rfl) :
    S2 X E (.For tg iter body [] pos) ρ mk (do let ds ← mi; forX ds s0 fun d s => do let t ← pat d; f t s) := by
  intro Mb B Hb M σ H P EE D bs o r p en er ee
  have pg : PG X tg (wG X tg) := ⟨fun pins s σ H v u Q I r h => h.run pins s u I r⟩
  refine of_ps (ps_for hp hc pi_w pg pss_w hs) ?_
  refine hi Mb M B σ H (fun ds => forX ds s0 (fun d s => do let t ← pat d; f t s) P EE) EE _ o r p (fun ds J H1 pd g1 wk => ?_) (ee.post bs)
  have b1 := bs.go g1
  have bl := b1.loop g1.ok
  refine ⟨fun i m σ' H' => m = ds.length - i ∧ i ≤ ds.length ∧ ∃ s M', Bs Mb (baseL Hb M H1) M' B H' ∧ Ok Mb M' B H' ∧ Rp X.K Mb M' B σ' H' (mk s) ∧ forX (ds.drop i) s (fun d s => do let t ← pat d; f t s) P EE,
    ⟨_, rfl, Nat.zero_le _, s0, M, bl, g1.ok, (r.go o g1).le h0, pd⟩, fun i m σ' H' ⟨em, hle, s, M', b2, o2, r2, pf⟩ => ?_⟩
  have kp : Kept M M' H1 H' := b2.kept g1.ok
  by_cases hlt : i < ds.length
  · refine .inr ⟨wk.go Mb M' H' i o2 kp hlt, fun σ2 H2 => ∃ s M', Bs Mb (baseL Hb M H1) M' B H2 ∧ Ok Mb M' B H2 ∧ Rp X.K Mb M' B σ2 H2 (mk s) ∧ forX (ds.drop (i + 1)) s (fun d s => do let t ← pat d; f t s) P EE, fun σ2 H2 hh => ⟨ds.length - (i + 1), by omega, rfl, hlt, hh⟩, fun x H3 y => ?_⟩
    have hd : ds[i]? = some ds[i] := List.getElem?_eq_getElem hlt
    obtain ⟨g3, ix⟩ := wk.yl Mb M' H' i _ x H3 o2 kp hd y
    rw [List.drop_eq_getElem_cons hlt] at pf
    have pf' : (pat ds[i]) (fun t => f t s (fun x => out2W (fun s' => forX (ds.drop (i + 1)) s' (fun d s => do let t ← pat d; f t s)) x P EE) EE) EE := pf
    refine hg s Mb M' B σ' H3 ds[i] x _ EE _ g3.ok (r2.go o2 g3) ix pf' fun t σ4 pt _ rt => ?_
    exact hb s t Mb B (baseL Hb M H1) M' σ4 H3 _ EE _ (b2.go g3) g3.ok rt pt (fun s5 M5 σ5 H5 p5 b5 o5 r5 => ⟨s5, M5, b5, o5, r5, p5⟩) (fun d v H5 p5 sb o5 iv => er d v H5 p5 (Ext.unloop b1 g1.ok sb) o5 iv) fun x H5 e5 sb o5 => ee x H5 e5 (Ext.unloop b1 g1.ok sb) o5
  · have ei : i = ds.length := by omega
    rw [List.drop_of_length_le (by omega)] at pf
    exact .inl ⟨wk.st Mb M' H' i o2 kp (by omega), en s M' σ' H' pf (Bs.unloop b1 g1.ok b2) o2 r2⟩
theorem s1_for {tg iter : Expr} {body : List Stmt} {mi : W (List D)} {mk : S → List SV} {s0 : S} {is : List Nat} {pat : D → W T} {st : S → T → List SV} {f : T → S → W S} (hp : PassesOwn (model X.prog X.w) X.A X.env X.xe) (hc : X.calm = true)
    (hi : IX X E tg iter ρ mi) (h0 : LeS ρ (mk s0)) (hg : ∀ s, GX X tg is (mk s) pat (st s)) (hb : ∀ s t, SN X E body (st s t) mk (f t s)) (hs : ∀ x, foldedSetIterable iter X.env x = pure x := by intro _; rfl) :
    S1 X E (.For tg iter body [] pos) ρ mk (do let ds ← mi; forW ds s0 fun d s => do let t ← pat d; f t s) := by
  intro Mb B Hb M σ H P EE D bs o r p en ee
  have pg : PG X tg (wG X tg) := ⟨fun pins s σ H v u Q I r h => h.run pins s u I r⟩
  refine of_ps (ps_for hp hc pi_w pg pss_w hs) ?_
  refine hi Mb M B σ H (fun ds => forW ds s0 (fun d s => do let t ← pat d; f t s) P EE) EE _ o r p (fun ds J H1 pd g1 wk => ?_) (ee.post bs)
  have b1 := bs.go g1
  have bl := b1.loop g1.ok
  refine ⟨fun i m σ' H' => m = ds.length - i ∧ i ≤ ds.length ∧ ∃ s M', Bs Mb (baseL Hb M H1) M' B H' ∧ Ok Mb M' B H' ∧ Rp X.K Mb M' B σ' H' (mk s) ∧ forW (ds.drop i) s (fun d s => do let t ← pat d; f t s) P EE,
    ⟨_, rfl, Nat.zero_le _, s0, M, bl, g1.ok, (r.go o g1).le h0, pd⟩, fun i m σ' H' ⟨em, hle, s, M', b2, o2, r2, pf⟩ => ?_⟩
  have kp : Kept M M' H1 H' := b2.kept g1.ok
  by_cases hlt : i < ds.length
  · refine .inr ⟨wk.go Mb M' H' i o2 kp hlt, fun σ2 H2 => ∃ s M', Bs Mb (baseL Hb M H1) M' B H2 ∧ Ok Mb M' B H2 ∧ Rp X.K Mb M' B σ2 H2 (mk s) ∧ forW (ds.drop (i + 1)) s (fun d s => do let t ← pat d; f t s) P EE, fun σ2 H2 hh => ⟨ds.length - (i + 1), by omega, rfl, hlt, hh⟩, fun x H3 y => ?_⟩
    have hd : ds[i]? = some ds[i] := List.getElem?_eq_getElem hlt
    obtain ⟨g3, ix⟩ := wk.yl Mb M' H' i _ x H3 o2 kp hd y
    rw [List.drop_eq_getElem_cons hlt] at pf
    have pf' : (pat ds[i]) (fun t => f t s (fun s' => forW (ds.drop (i + 1)) s' (fun d s => do let t ← pat d; f t s) P EE) EE) EE := pf
    refine hg s Mb M' B σ' H3 ds[i] x _ EE _ g3.ok (r2.go o2 g3) ix pf' fun t σ4 pt _ rt => ?_
    exact hb s t Mb B (baseL Hb M H1) M' σ4 H3 _ EE _ (b2.go g3) g3.ok rt pt (fun s5 M5 σ5 H5 p5 b5 o5 r5 => ⟨s5, M5, b5, o5, r5, p5⟩) fun x H5 e5 sb o5 => ee x H5 e5 (Ext.unloop b1 g1.ok sb) o5
  · have ei : i = ds.length := by omega
    rw [List.drop_of_length_le (by omega)] at pf
    exact .inl ⟨wk.st Mb M' H' i o2 kp (by omega), en s M' σ' H' pf (Bs.unloop b1 g1.ok b2) o2 r2⟩
end

/-! ### reading own lists: borrowed -/
section
variable {X : Cx} {E : XK} {ρ ρ' : List SV} {e : Expr}
def flatW (d : D) : W D := if d.flat then pure d else stuck
def flatsW (ds : List D) : W (List D) := if ds.all D.flat then pure ds else stuck
theorem Is.flat {K : PySem.W.Frag} {M M' B : Addr → Prop} {H H' : Hp} {d : D} {v : V} (f : d.flat = true) (h : Is K M B H d v) : Is K M' B H' d v := by
  cases d with
  | non => exact h
  | bl b => exact h
  | int b => exact h
  | str b => exact h
  | _ => exact absurd (show false = true from f) Bool.false_ne_true
theorem IsL.flat {K : PySem.W.Frag} {M M' B : Addr → Prop} {H H' : Hp} : ∀ {ds : List D} {vs : List V}, ds.all D.flat = true → IsL K M B H ds vs → IsL K M' B H' ds vs
  | [], _, _, h => h
  | d :: ds, _, f, ⟨v, r, e, h1, h2⟩ => by
    rw [List.all_cons, Bool.and_eq_true] at f
    exact ⟨v, r, e, Is.flat f.1 h1, IsL.flat f.2 h2⟩
theorem Go.up {Mb M B : Addr → Prop} {H H' : Hp} (o : Ok Mb M B H) (g : Go Mb Mb B H H') : Go Mb M B H H' := ⟨g.ext, o.ext g.ext⟩
theorem Go.dn {Mb M B : Addr → Prop} {H H' : Hp} (g : Go Mb M B H H') : Go Mb Mb B H H' := ⟨g.ext, g.ok.down⟩
theorem ex_bor {m : W D} (h : EX X E e ρ' m) (hr : ρ.map fzS = ρ' := by rfl) : EX X E e ρ (do let d ← m; flatW d) := by
  intro Mb M B σ H P EE Q o r p q ee
  have r2 := r.fz o
  rw [hr] at r2
  refine h Mb Mb B σ H (fun d => flatW d P EE) EE Q o.down r2 p (fun d v H1 pd g iv => ?_) fun x H1 ex g => ee x H1 ex (Go.up o g)
  have pd' : (if d.flat then pure d else stuck : W D) P EE := pd
  by_cases f : d.flat = true
  · rw [if_pos f] at pd'
    exact q d v H1 pd' (Go.up o g) (Is.flat f iv)
  · rw [if_neg f] at pd'
    exact False.elim pd'
theorem ef_bor {m : W (List D)} (h : EF X E e ρ' m) (hr : ρ.map fzS = ρ' := by rfl) : EF X E e ρ (do let d ← m; flatsW d) := by
  intro Mb M B σ H P EE Q o r p q ee
  have r2 := r.fz o
  rw [hr] at r2
  refine h Mb Mb B σ H (fun d => flatsW d P EE) EE Q o.down r2 p (fun d a vs H1 pd g n l iv => ?_) fun x H1 ex g => ee x H1 ex (Go.up o g)
  have pd' : (if d.all D.flat then pure d else stuck : W (List D)) P EE := pd
  by_cases f : d.all D.flat = true
  · rw [if_pos f] at pd'
    exact q d a vs H1 pd' (Go.up o g) n l (IsL.flat f iv)
  · rw [if_neg f] at pd'
    exact False.elim pd'
theorem et_bor {m : W Bool} (h : ET X E e ρ' m) (hr : ρ.map fzS = ρ' := by rfl) : ET X E e ρ m := by
  intro Mb M B σ H P EE Q o r p q ee
  have r2 := r.fz o
  rw [hr] at r2
  exact h Mb Mb B σ H P EE Q o.down r2 p (fun d H1 pd g => q d H1 pd (Go.up o g)) fun x H1 ex g => ee x H1 ex (Go.up o g)
end
end DG

/-! ## DG8 -/
set_option Elab.async false
set_option linter.all false
set_option maxRecDepth 100000
set_option maxHeartbeats 4000000
namespace DG
open PySem PySem.Spec PyProof.Rows L2

/-! ### values for slots -/
structure NewM (Mb M B : Addr → Prop) (H : Hp) (M' : Addr → Prop) (H' : Hp) : Prop where
  ext : Ext B H H'
  ok : Ok Mb M' B H'
  up : ∀ a, M a → M' a
  new : ∀ a, M' a → M a ∨ H a = none
def EM {T : Type} (X : Cx) (E : XK) (e : Expr) (ρ : List SV) (emb : T → SV) (m : W T) : Prop := ∀ Mb M B σ H (P : T → Prop) EE (Q : VK), Ok Mb M B H → Rp X.K Mb M B σ H ρ → m P EE →
  (∀ t v M' H', P t → NewM Mb M B H M' H' → SlotIs X.K Mb M' B H' (emb t) (some v) → ((emb t).isOwn = true → ∃ p, v = .ref p ∧ H p = none) → Q v H') → PostE X E Mb M B H EE → wE X e σ H Q
section
variable {K : PySem.W.Frag} {X : Cx} {E : XK} {Mb M M' M2 B : Addr → Prop} {H H' H2 Hb : Hp} {ρ : List SV} {σ : L2.St}
theorem NewM.refl (o : Ok Mb M B H) : NewM Mb M B H M H := ⟨.refl, o, fun _ m => m, fun _ m => .inl m⟩
theorem NewM.of_go (g : Go Mb M B H H') : NewM Mb M B H M H' := ⟨g.ext, g.ok, fun _ m => m, fun _ m => .inl m⟩
theorem NewM.back (o : Ok Mb M B H) (n : NewM Mb M B H M' H') {a : Addr} (h : H' a = none) : H a = none := by
  cases q : H a with
  | none => rfl
  | some u =>
    by_cases b : B a
    · obtain ⟨w, e, _⟩ := n.ok.tr a (n.ok.mm a (n.ok.bm a b))
      rw [h] at e
      cases e
    · rw [n.ext.k a u q b] at h
      cases h
theorem NewM.trans (o : Ok Mb M B H) (a : NewM Mb M B H M' H') (b : NewM Mb M' B H' M2 H2) : NewM Mb M B H M2 H2 := ⟨a.ext.trans b.ext, b.ok, fun x m => b.up x (a.up x m), fun x m => (b.new x m).elim (a.new x) fun z => .inr (a.back o z)⟩
theorem NewM.kept (o : Ok Mb M B H) (n : NewM Mb M B H M' H') : Kept M M' H H' :=
  ⟨fun a xs nm h => ⟨fun m => (n.new a m).elim nm fun z => (by rw [h] at z; cases z), n.ext.k a _ h (o.nb nm)⟩, fun a u i h => n.ext.k a u h (o.nb (o.nmI h i))⟩
theorem Rp.newM (r : Rp K Mb M B σ H ρ) (o : Ok Mb M B H) (n : NewM Mb M B H M' H') : Rp K Mb M' B σ H' ρ := r.keep (n.kept o) n.up fun a m nb => by
  obtain ⟨w, hw, _⟩ := o.tr a m
  rw [hw]
  exact n.ext.k a w hw fun b => nb (o.bm a b)
theorem SlotIs.newM (o : Ok Mb M B H) (n : NewM Mb M B H M' H') : ∀ {s : SV} {x : Option V}, SlotIs K Mb M B H s x → SlotIs K Mb M' B H' s x
  | .no, _, _ => trivial
  | .d d, _, ⟨v, e, i⟩ => ⟨v, e, Is.keep (n.kept o) (fun _ b => b) _ _ i⟩
  | .own ds, _, ⟨p, vs, e, m, nb, l, i⟩ => ⟨p, vs, e, n.up p m, nb, n.ext.k _ _ l fun b => nb (o.bm p b), (n.kept o).isL i⟩
  | .dct kvs, _, ⟨p, vs, e, m, nb, l, i⟩ => ⟨p, vs, e, n.up p m, nb, n.ext.k _ _ l fun b => nb (o.bm p b), i.keep (n.kept o)⟩
theorem Bs.newM (b : Bs Mb Hb M B H) (o : Ok Mb M B H) (n : NewM Mb M B H M' H') : Bs Mb Hb M' B H' := ⟨b.hb.trans n.ext, fun a m => (n.new a m).elim (b.mb a) fun z => .inr (b.no o z)⟩
theorem Rp.setSV {i : Nat} {v : V} {sv : SV} (r : Rp K Mb M B σ H ρ) (hs : SlotIs K Mb M B H sv (some v)) (hn : sv.isOwn = true → ∀ j s, ρ[j]? = some s → s.isOwn = true → j ≠ i → σ[j]? ≠ some (some v)) : Rp K Mb M B (σ.set i (some v)) H (ρ.set i sv) := by
  cases sv with
  | no => exact r.setNo
  | d d =>
    obtain ⟨w, e, iw⟩ := hs
    cases e
    exact r.setD iw
  | own ds =>
    obtain ⟨p, vs, e, r0⟩ := id hs
    cases e
    exact r.setOwn hs (hn rfl)
  | dct ds =>
    obtain ⟨p, vs, e, r0⟩ := id hs
    cases e
    exact r.setOwn hs (hn rfl)
/-- a value that came behind H is in no own slot of then -/
theorem own_apart (r : Rp K Mb M B σ H ρ) {sv : SV} {v : V} (h : sv.isOwn = true → ∃ p, v = .ref p ∧ H p = none) (i : Nat) : sv.isOwn = true → ∀ j s, ρ[j]? = some s → s.isOwn = true → j ≠ i → σ[j]? ≠ some (some v) := fun z j s e hs _ q => by
  obtain ⟨p, e1, n⟩ := h z
  obtain ⟨p2, e2, _, _, u, hu⟩ := r.own_at e hs
  rw [e2, e1] at q
  cases q
  rw [n] at hu
  cases hu
theorem em_d {e : Expr} {m : W D} (h : EX X E e ρ m) : EM X E e ρ SV.d m := by
  intro Mb M B σ H P EE Q o r p q ee
  exact h Mb M B σ H P EE Q o r p (fun d v H1 pd g iv => q d v M H1 pd (.of_go g) ⟨v, rfl, iv⟩ fun z => nomatch z) ee
theorem em_own {e : Expr} {m : W (List D)} (h : EF X E e ρ m) : EM X E e ρ SV.own m := by
  intro Mb M B σ H P EE Q o r p q ee
  refine h Mb M B σ H P EE Q o r p (fun ds a vs H1 pd g n l il => ?_) ee
  have bs : Bs Mb (fun _ => none) M B H := ⟨⟨fun _ _ e => (by cases e), fun _ _ _ _ e => (by cases e)⟩, fun _ _ => .inr rfl⟩
  obtain ⟨b2, o2, r2⟩ := own_new (sv := .own ds) o bs r g n l not_imm_lst 0 ⟨a, vs, rfl, .inr rfl, fun z => o.nm n (o.mm a z), l, il⟩
  exact q ds (.ref a) _ H1 pd ⟨g.ext, o2, fun _ m => .inl m, fun x m => m.elim .inl fun z => .inr (by rw [z]; exact n)⟩ ⟨a, vs, rfl, .inr rfl, fun z => o.nm n (o.mm a z), l, il⟩ fun _ => ⟨a, rfl, n⟩
/-- {} -/
theorem em_dct {pos : Pos} : EM X E (.Dict [] [] pos) ρ (fun _ : Unit => SV.dct []) (pure ()) := by
  intro Mb M B σ H P EE Q o r p q ee
  refine of_pe pe_dnewK fun a n => ?_
  have bs : Bs Mb (fun _ => none) M B H := ⟨⟨fun _ _ e => (by cases e), fun _ _ _ _ e => (by cases e)⟩, fun _ _ => .inr rfl⟩
  have hs : SlotIs X.K Mb (fun x => M x ∨ x = a) B (upd H a (.dK [])) (.dct []) (some (.ref a)) := ⟨a, [], rfl, .inr rfl, fun z => o.nm n (o.mm a z), upd_same, .nil⟩
  obtain ⟨b2, o2, r2⟩ := own_new (sv := .dct []) o bs r (Go.new o n) n upd_same not_imm_dK 0 hs
  exact q () (.ref a) _ _ p ⟨Ext.new n, o2, fun _ m => .inl m, fun x m => m.elim .inl fun z => .inr (by rw [z]; exact n)⟩ hs fun _ => ⟨a, rfl, n⟩
variable {pos : Pos} {S T U : Type}
theorem s1_em (i : Nat) {x : Str} {e : Expr} {emb : T → SV} {m : W T} {mk : T → List SV} {pos' : Pos} (hN : X.N.Nodup) (he : EM X E e ρ emb m) (h : ∀ d, ρ.set i (emb d) = mk d := by intros; rfl) (hi : X.N[i]? = some x := by rfl) (hx : Loc X.env.scope x := by first | exact .inl rfl | exact .inr rfl)
    (hs : swapsWith e (some (.Name x pos')) pos.line X.env = pure false := by rfl) (hf : X.fn x = true ∨ X.env.scope.names.lookup x = some .local := by first | exact .inl rfl | exact .inr rfl) : S1 X E (.Assign [.Name x pos'] e pos) ρ mk m := by
  intro Mb B Hb M σ H P EE D bs o r p en ee
  refine of_ps (ps_set hN hi hx pe_w hs hf) ?_
  refine he Mb M B σ H P EE _ o r p (fun t v M' H1 pd n hs hn => ?_) (ee.post bs)
  have r2 := (r.newM o n).setSV (i := i) hs (own_apart r hn i)
  rw [h t] at r2
  exact en t M' _ H1 pd (bs.newM o n) n.ok r2
theorem s1_par2 (i j : Nat) {x y : Str} {a b : Expr} {e1 : S → SV} {e2 : T → SV} {ma : W S} {mb : W T} {mk : S × T → List SV} {px py pt : Pos} {kt k2 pt2} (hc : X.calm = true) (hN : X.N.Nodup) (ha : EM X E a ρ e1 ma) (hb : EM X E b ρ e2 mb)
    (h : ∀ x y, (ρ.set i (e1 x)).set j (e2 y) = mk (x, y) := by intros; rfl) (hi : X.N[i]? = some x := by rfl) (hj : X.N[j]? = some y := by rfl) (hij : i ≠ j := by decide)
    (hx : X.env.scope.names.lookup x = some .local := by rfl) (hy : X.env.scope.names.lookup y = some .local := by rfl)
    (hw : swappedStores [.Tuple [.Name x px, .Name y py] kt pt] (.Tuple [a, b] k2 pt2) X.env = pure (some [x, y]) := by rfl)
    (hs : swapsWithSole [.Tuple [.Name x px, .Name y py] kt pt] (.Tuple [a, b] k2 pt2) pos.line X.env = pure false := by rfl)
    (st1 : starEach [a, b] X.env = (false, eval a X.env) :: starEach [b] X.env := by rfl) (st2 : starEach [b] X.env = (false, eval b X.env) :: starEach [] X.env := by rfl) :
    S1 X E (.Assign [.Tuple [.Name x px, .Name y py] kt pt] (.Tuple [a, b] k2 pt2) pos) ρ mk (do let x ← ma; let y ← mb; pure (x, y)) := by
  intro Mb B Hb M σ H P EE D bs o r p en ee
  refine of_ps (ps_par hc hN hi hj hij hx hy (pa_cons pe_w (pa_cons pe_w pa_nil st2) st1) hw hs) ?_
  refine ha Mb M B σ H (fun x => ((do let y ← mb; pure (x, y)) : W (S × T)) P EE) EE _ o r p (fun s v M1 H1 p1 n1 s1 h1 => ?_) (ee.post bs)
  have r1 := r.newM o n1
  have b1 := bs.newM o n1
  refine hb Mb M1 B σ H1 (fun y => P (s, y)) EE _ n1.ok r1 p1 (fun t w M2 H2 p2 n2 s2 h2 => ?_) (ee.post b1)
  refine ⟨v, w, rfl, ?_⟩
  have n12 := n1.trans o n2
  have r2 := r.newM o n12
  have r3 := r2.setSV (i := i) (s1.newM n1.ok n2) (own_apart r h1 i)
  have r4 := r3.setSV (i := j) s2 fun z jj ss e hh hne => by
    obtain ⟨p, e1', np⟩ := h2 z
    by_cases q : i = jj
    · subst q
      intro x
      have hi' : i < σ.length := by
        have := (List.getElem?_eq_some_iff.mp e).1
        rw [List.length_set] at this
        rw [r.len]; exact this
      rw [List.getElem?_set_self hi'] at x
      have hii : i < ρ.length := by rw [← r.len]; exact hi'
      rw [List.getElem?_set_self hii] at e
      cases e
      obtain ⟨p', e2', np'⟩ := h1 hh
      rw [e1', e2'] at x
      cases x
      have : ∃ u, H1 p = some u := by
        cases q2 : e1 s with
        | no => rw [q2] at hh; cases hh
        | d d => rw [q2] at hh; cases hh
        | own ds =>
          rw [q2] at s1
          obtain ⟨p3, vs, e3, _, _, l, _⟩ := s1
          rw [e2'] at e3
          cases e3
          exact ⟨_, l⟩
        | dct ds =>
          rw [q2] at s1
          obtain ⟨p3, vs, e3, _, _, l, _⟩ := s1
          rw [e2'] at e3
          cases e3
          exact ⟨_, l⟩
      obtain ⟨u, hu⟩ := this
      rw [np] at hu
      cases hu
    · rw [List.getElem?_set_ne q] at e ⊢
      exact own_apart r1 (sv := e2 t) (v := w) h2 j z jj ss e hh hne
  rw [h s t] at r4
  exact en (s, t) M2 _ H2 p2 (bs.newM o n12) n12.ok r4
theorem slot_at {sv : SV} {p : Addr} (hh : sv.isOwn = true) (s : SlotIs K Mb M B H sv (some (.ref p))) : ∃ u, H p = some u := by
  cases sv with
  | no => cases hh
  | d d => cases hh
  | own ds =>
    obtain ⟨p3, vs, e3, _, _, l, _⟩ := s
    cases e3
    exact ⟨_, l⟩
  | dct ds =>
    obtain ⟨p3, vs, e3, _, _, l, _⟩ := s
    cases e3
    exact ⟨_, l⟩
/-- .. behind one more slot set -/
theorem own_apart2 (r : Rp K Mb M B σ H ρ) {s1 sv : SV} {v w : V} (h1 : s1.isOwn = true → ∃ p, v = .ref p) (k1 : SlotIs K Mb M B H s1 (some v)) (h : sv.isOwn = true → ∃ p, w = .ref p ∧ H p = none) (i j : Nat) :
    sv.isOwn = true → ∀ jj s, (ρ.set i s1)[jj]? = some s → s.isOwn = true → jj ≠ j → (σ.set i (some v))[jj]? ≠ some (some w) := fun z jj ss e hh hne => by
  obtain ⟨p, e1', np⟩ := h z
  by_cases q : i = jj
  · subst q
    intro x
    have hi' : i < σ.length := by
      have := (List.getElem?_eq_some_iff.mp e).1
      rw [List.length_set] at this
      rw [r.len]; exact this
    rw [List.getElem?_set_self hi'] at x
    have hii : i < ρ.length := by rw [← r.len]; exact hi'
    rw [List.getElem?_set_self hii] at e
    cases e
    obtain ⟨p', e2'⟩ := h1 hh
    rw [e1', e2'] at x
    cases x
    rw [e2'] at k1
    obtain ⟨u, hu⟩ := slot_at hh k1
    rw [np] at hu
    cases hu
  · rw [List.getElem?_set_ne q] at e ⊢
    exact own_apart r h j z jj ss e hh hne
theorem Rp.setSVr {i : Nat} {v : V} {sv : SV} (r : Rp K Mb M B σ H ρ) (hs : SlotIs K Mb M B H sv (some v)) (hn : sv.isOwn = true → ∀ j s, ρ[j]? = some s → s.isOwn = true → j ≠ i → σ[j]? ≠ some (some v)) : Rp K Mb M B (σ.set i (some v)) H (ρ.set i sv) := r.setSV hs hn
theorem s1_par3 (i j l : Nat) {x y z : Str} {a b c : Expr} {e1 : S → SV} {e2 : T → SV} {e3 : U → SV} {ma : W S} {mb : W T} {mc : W U} {mk : S × T × U → List SV} {px py pz pt : Pos} {kt k2 pt2} (hc : X.calm = true) (hN : X.N.Nodup) (ha : EM X E a ρ e1 ma) (hb : EM X E b ρ e2 mb) (hcc : EM X E c ρ e3 mc)
    (h : ∀ x y z, ((ρ.set i (e1 x)).set j (e2 y)).set l (e3 z) = mk (x, y, z) := by intros; rfl) (hi : X.N[i]? = some x := by rfl) (hj : X.N[j]? = some y := by rfl) (hl : X.N[l]? = some z := by rfl) (hij : i ≠ j := by decide) (hil : i ≠ l := by decide) (hjl : j ≠ l := by decide)
    (hx : X.env.scope.names.lookup x = some .local := by rfl) (hy : X.env.scope.names.lookup y = some .local := by rfl) (hz : X.env.scope.names.lookup z = some .local := by rfl)
    (hw : swappedStores [.Tuple [.Name x px, .Name y py, .Name z pz] kt pt] (.Tuple [a, b, c] k2 pt2) X.env = pure (some [x, y, z]) := by rfl)
    (hs : swapsWithSole [.Tuple [.Name x px, .Name y py, .Name z pz] kt pt] (.Tuple [a, b, c] k2 pt2) pos.line X.env = pure false := by rfl)
    (st1 : starEach [a, b, c] X.env = (false, eval a X.env) :: starEach [b, c] X.env := by rfl) (st2 : starEach [b, c] X.env = (false, eval b X.env) :: starEach [c] X.env := by rfl) (st3 : starEach [c] X.env = (false, eval c X.env) :: starEach [] X.env := by rfl) :
    S1 X E (.Assign [.Tuple [.Name x px, .Name y py, .Name z pz] kt pt] (.Tuple [a, b, c] k2 pt2) pos) ρ mk (do let x ← ma; let y ← mb; let z ← mc; pure (x, y, z)) := by
  intro Mb B Hb M σ H P EE D bs o r p en ee
  refine of_ps (ps_par3 hc hN hi hj hl hij hil hjl hx hy hz (pa_cons pe_w (pa_cons pe_w (pa_cons pe_w pa_nil st3) st2) st1) hw hs) ?_
  refine ha Mb M B σ H (fun x => ((do let y ← mb; let z ← mc; pure (x, y, z)) : W (S × T × U)) P EE) EE _ o r p (fun s v M1 H1 p1 n1 s1 h1 => ?_) (ee.post bs)
  have r1 := r.newM o n1
  have b1 := bs.newM o n1
  refine hb Mb M1 B σ H1 (fun y => ((do let z ← mc; pure (s, y, z)) : W (S × T × U)) P EE) EE _ n1.ok r1 p1 (fun t w M2 H2 p2 n2 s2 h2 => ?_) (ee.post b1)
  have n12 := n1.trans o n2
  have r2 := r.newM o n12
  have b2 := bs.newM o n12
  refine hcc Mb M2 B σ H2 (fun z => P (s, t, z)) EE _ n12.ok r2 p2 (fun u q M3 H3 p3 n3 s3 h3 => ?_) (ee.post b2)
  refine ⟨v, w, q, rfl, ?_⟩
  have n23 := n2.trans n1.ok n3
  have n13 := n12.trans o n3
  have s1' := s1.newM n1.ok n2
  have s1'' := s1'.newM n12.ok n3
  have s2' := s2.newM n12.ok n3
  have a2 := own_apart2 r1 (fun z => let ⟨p, e, _⟩ := h1 z; ⟨p, e⟩) s1 h2 i j
  have ra := (r.newM o n13).setSV (i := i) s1'' (own_apart r h1 i)
  have rb := ra.setSV (i := j) s2' a2
  have ra2 := r2.setSV (i := i) s1' (own_apart r h1 i)
  have a3 := own_apart2 ra2 (fun z => let ⟨p, e, _⟩ := h2 z; ⟨p, e⟩) s2 h3 j l
  have rc := rb.setSV (i := l) s3 a3
  rw [h s t u] at rc
  exact en (s, t, u) M3 _ H3 p3 (bs.newM o n13) n13.ok rc
end

/-! ### a comprehension that is stored at once -/
structure LCR (X : Cx) (E : XK) (elt tg iter : Expr) (ifs : List Expr) (scope : Scope) (ρ : List SV) (m : W (List D)) : Prop where
  ex : ∃ own g tt te, BlkOk X.N X.env.scope scope own ∧ (∀ s H C cl fp, PG (Bk X scope s H C cl fp) tg g) ∧ (∀ s H C cl fp, PTs (Bk X scope s H C cl fp) ifs tt) ∧ (∀ s H C cl fp, PE (Bk X scope s H C cl fp) elt te) ∧
    ∀ Mb M B σ H (P : List D → Prop) EE (Q : VK), Ok Mb M B H → Rp X.K Mb M B σ H ρ → m P EE → PostF X Mb M B H P Q → PostE X E Mb M B H EE → tLc (wI X tg iter) g tt te (own.map (·.2)) σ H Q
section
variable {X : Cx} {E : XK} {ρ : List SV} {pos : Pos} {T : Type} {k : Nat} {elt tg iter c : Expr} {ifs : List Expr} {scope : Scope} {own : List (Str × Nat)} {mi : W (List D)} {ρw : List SV} {is : List Nat} {pat : D → W T} {st : T → List SV} {mt : T → W Bool} {me : T → W D} {m : W (List D)}
theorem lc_plain (own : List (Str × Nat)) (hi : IX X E tg iter ρ mi) (ok : BlkOk X.N X.env.scope scope own) (hg : ∀ s H0 C cl fp, GX (Bk X scope s H0 C cl fp) tg is ρw pat st) (he : ∀ s H0 C cl fp t, EX (Bk X scope s H0 C cl fp) E0 elt (st t) (me t)) (hw : wipeS ρ (own.map (·.2)) = ρw := by rfl) (hs : ∀ i ∈ is, i ∈ own.map (·.2) := by decide) :
    LCR X E elt tg iter [] scope ρ (do let ds ← mi; need (ds.length ≤ line) (compW ds fun d => do let t ← pat d; let x ← me t; pure (some x))) :=
  ⟨own, gAll X scope tg, tYes, eAll X scope elt, ok, fun s H0 C cl fp => ⟨fun pins s' σ' H' v u Q' I r h => (h s H0 C cl fp).run pins s' u I r⟩, fun _ _ _ _ _ => pts_nil, fun s H0 C cl fp => ⟨fun pins s' σ' H' Q' I h => (h s H0 C cl fp).run pins s' I⟩,
    fun Mb M B σ H P EE Q o rp p q ee => tlc_of (mt := fun _ => pure true) (pat := pat) (me := me) (st := st) hi hw hs (fun Mb M B σ H d v P EE Q o r iv p q s H0 C cl fp => hg s H0 C cl fp Mb M B σ H d v P EE Q o r iv p q) (fun t Mb M B σ H P Q o r p q => q true H p (.refl o))
      (fun t Mb M B σ H P Q o r p q s H0 C cl fp => he s H0 C cl fp t Mb M B σ H P (fun _ => False) Q o r p q fun _ _ z => z.elim) o rp p q ee⟩
theorem lc_if (own : List (Str × Nat)) (hi : IX X E tg iter ρ mi) (ok : BlkOk X.N X.env.scope scope own) (hg : ∀ s H0 C cl fp, GX (Bk X scope s H0 C cl fp) tg is ρw pat st) (ht : ∀ s H0 C cl fp t, ET (Bk X scope s H0 C cl fp) E0 c (st t) (mt t)) (he : ∀ s H0 C cl fp t, EX (Bk X scope s H0 C cl fp) E0 elt (st t) (me t)) (hw : wipeS ρ (own.map (·.2)) = ρw := by rfl) (hs : ∀ i ∈ is, i ∈ own.map (·.2) := by decide) :
    LCR X E elt tg iter [c] scope ρ (do let ds ← mi; need (ds.length ≤ line) (compW ds fun d => do let t ← pat d; let c ← mt t; if c then (do let x ← me t; pure (some x)) else pure none)) :=
  ⟨own, gAll X scope tg, tAll X scope c, eAll X scope elt, ok, fun s H0 C cl fp => ⟨fun pins s' σ' H' v u Q' I r h => (h s H0 C cl fp).run pins s' u I r⟩, fun s H0 C cl fp => pts_one ⟨fun pins s' σ' H' Q' I h => (h s H0 C cl fp).run pins s' I⟩, fun s H0 C cl fp => ⟨fun pins s' σ' H' Q' I h => (h s H0 C cl fp).run pins s' I⟩,
    fun Mb M B σ H P EE Q o rp p q ee => tlc_of (mt := mt) (pat := pat) (me := me) (st := st) hi hw hs (fun Mb M B σ H d v P EE Q o r iv p q s H0 C cl fp => hg s H0 C cl fp Mb M B σ H d v P EE Q o r iv p q)
      (fun t Mb M B σ H P Q o r p q s H0 C cl fp => ht s H0 C cl fp t Mb M B σ H P (fun _ => False) Q o r p q fun _ _ z => z.elim)
      (fun t Mb M B σ H P Q o r p q s H0 C cl fp => he s H0 C cl fp t Mb M B σ H P (fun _ => False) Q o r p q fun _ _ z => z.elim) o rp p q ee⟩
theorem ef_lcr (G : Cg X E k) (h : LCR X E elt tg iter ifs scope ρ m) (hf : ∀ x, foldedSetIterable iter X.env x = pure x := by intro _; rfl) : EF X E (.ListComp elt [⟨tg, iter, ifs, 0⟩] scope pos) ρ m := by
  intro Mb M B σ H P EE Q o rp p q ee
  obtain ⟨own, g, tt, te, ok, hg, ht, he, hh⟩ := h.ex
  exact of_pe (pe_lc G.calm G.nd pi_w ok hg ht he hf) (hh Mb M B σ H P EE Q o rp p q ee)
theorem s1_lcOwn (i : Nat) {y : Str} {py spos : Pos} {mk : List D → List SV} (G : Cg X E k) (hl : LCR X E elt tg iter ifs scope ρ m) (h : ∀ d, ρ.set i (.own d) = mk d := by intros; rfl) (hy : X.N[i]? = some y := by rfl) (hyl : X.env.scope.names.lookup y = some .local := by rfl)
    (hsw : swapsWith (.ListComp elt [⟨tg, iter, ifs, 0⟩] scope pos) (some (.Name y py)) spos.line X.env = pure true := by rfl) (hf : ∀ x, foldedSetIterable iter X.env x = pure x := by intro _; rfl) : S1 X E (.Assign [.Name y py] (.ListComp elt [⟨tg, iter, ifs, 0⟩] scope pos) spos) ρ mk m := by
  intro Mb B Hb M σ H P EE D bs o r p en ee
  obtain ⟨own, g, tt, te, ok, hg, ht, he, hh⟩ := hl.ex
  refine of_ps (ps_setLc G.calm G.nd hy hyl hsw pi_w ok hg ht he hf) ?_
  refine hh Mb M B σ H P EE _ o r p (fun ds q vs H1 pd g1 n l il => ?_) (ee.post bs)
  obtain ⟨b2, o2, r2⟩ := own_new (sv := .own ds) o bs r g1 n l not_imm_lst i ⟨q, vs, rfl, .inr rfl, fun z => o.nm n (o.mm q z), l, il⟩
  rw [h ds] at r2
  exact en ds _ _ H1 pd b2 o2 r2
theorem s1_lcSet (i : Nat) {y : Str} {py spos : Pos} {mk : List D → List SV} (G : Cg X E k) (hl : LCR X E elt tg iter ifs scope ρ m) (h : ∀ d, ρ.set i (.d (.lst d)) = mk d := by intros; rfl) (hy : X.N[i]? = some y := by rfl) (hyl : X.env.scope.names.lookup y = some .local := by rfl)
    (hsw : swapsWith (.ListComp elt [⟨tg, iter, ifs, 0⟩] scope pos) (some (.Name y py)) spos.line X.env = pure true := by rfl) (hf : ∀ x, foldedSetIterable iter X.env x = pure x := by intro _; rfl) : S1 X E (.Assign [.Name y py] (.ListComp elt [⟨tg, iter, ifs, 0⟩] scope pos) spos) ρ mk m := by
  intro Mb B Hb M σ H P EE D bs o r p en ee
  obtain ⟨own, g, tt, te, ok, hg, ht, he, hh⟩ := hl.ex
  refine of_ps (ps_setLc G.calm G.nd hy hyl hsw pi_w ok hg ht he hf) ?_
  refine hh Mb M B σ H P EE _ o r p (fun ds q vs H1 pd g1 n l il => ?_) (ee.post bs)
  have r2 := (r.go o g1).setD (i := i) (d := .lst ds) (v := .ref q) ⟨q, vs, rfl, o.nm n, l, il.less fun _ m => .inl m⟩
  rw [h ds] at r2
  exact en ds M _ H1 pd (bs.go g1) g1.ok r2
end

/-! ### raise -/
/-- an exception class of the program, without own __init__, over ValueError -/
structure ExcC (K : PySem.W.Frag) (mg : Str → Option Value) (x : Str) : Prop where
  ex : ∃ C, mg x = some (.ref C) ∧ PySem.W.excIn K C [.type "ValueError", .type "Exception", .type "BaseException", .type "object"] "ValueError.__new__" = true ∧ PySem.W.keepIn K (.ref C) = true ∧ PySem.W.subIn K (.ref C) (.type "BaseException") = some true ∧ PySem.W.typeIn K (.ref C) = some (.type "type")
theorem sr_raise {X : Cx} {E : XK} {ρ : List SV} {b : Bool} {rest : List Stmt} {x t : Str} {j : Nat} {p1 p2 p3 pos : Pos} (hc : X.calm = true) (tk : L2N.Takes X (fun cls d _ H => E cls d H)) (h : ExcC X.K X.mg x) (hg : Gl X x := by rfl) (hdb : (x == ("__debug__" : Str)) = false := by decide) :
    SR X E b (.Raise (some (.Call (.Name x p1) [.Constant (.str t) j p2] [] p3)) none pos :: rest) ρ (throwW x) := by
  intro Mb B Hb M σ H P EE D bs o r p er hn ee
  obtain ⟨C, gC, xC, kC, bC, tC⟩ := h.ex
  refine of_pss (pss_cons (L2N.ps_raise hc tk (L2N.pmk_own PySem.F.excBase_ValueError xC gC kC (raises_own bC tC) hg hdb)) pss_never) ?_
  exact ee x H p bs.hb o.down C gC

/-! ### a def -/
theorem startRp {K : PySem.W.Frag} {Mb B : Addr → Prop} {H : Hp} {N : List Str} {ds : List D} {vs : List V} (il : IsL K Mb B H ds vs) : Rp K Mb Mb B (L2.start N vs) H (ds.map SV.d ++ List.replicate (N.length - ds.length) SV.no) where
  len := by
    unfold L2.start
    rw [List.length_append, List.length_append, List.length_map, List.length_map, List.length_replicate, List.length_replicate, il.len]
  sl := fun i s e => by
    unfold L2.start
    by_cases hi : i < ds.length
    · have hv : i < vs.length := by rw [il.len]; exact hi
      rw [List.getElem?_append_left (by rw [List.length_map]; exact hi), List.getElem?_map, List.getElem?_eq_getElem hi] at e
      cases e
      obtain ⟨v, e1, iv⟩ := il.get (List.getElem?_eq_getElem hi)
      exact ⟨some v, by rw [List.getElem?_append_left (by rw [List.length_map]; exact hv), List.getElem?_map, e1]; rfl, v, rfl, iv⟩
    · rw [List.getElem?_append_right (by rw [List.length_map]; omega)] at e
      have e' := List.mem_of_getElem? e
      rw [List.mem_replicate] at e'
      obtain ⟨_, rfl⟩ := e'
      have hl := (List.getElem?_eq_some_iff.mp e).1
      rw [List.length_replicate] at hl
      rw [List.length_map] at hl
      refine ⟨none, ?_, trivial⟩
      rw [List.getElem?_append_right (by rw [List.length_map, il.len]; omega), List.getElem?_replicate, if_pos (by rw [List.length_map, il.len]; exact hl)]
  dis := fun i j s t p ei ej si sj _ _ => by
    exfalso
    have h : ∀ (i : Nat) (s : SV), (ds.map SV.d ++ List.replicate (N.length - ds.length) SV.no)[i]? = some s → s.isOwn = true → False := fun i s e h => by
      rcases List.mem_append.mp (List.mem_of_getElem? e) with z | z
      · obtain ⟨d, _, rfl⟩ := List.mem_map.mp z
        cases h
      · rw [List.mem_replicate] at z
        obtain ⟨_, rfl⟩ := z
        cases h
    exact h i s ei si
/-- the context of a def's body -/
abbrev cx (P : Program) (w : World) (K : PySem.W.Frag) (mg : Str → Option Value) (base : Heap) (N : List Str) (qual : Str) (st : Stmt) (f : Addr) (cdv : Value) (A : Around) (outer : List Env) (s : Shared) (H : Hp) (E : XK) : Cx :=
  cxOf (L2N.CX P w) P w K mg base N qual (defScope st) f cdv A outer s H E
structure Cd (X : Cx) (E : XK) (k : Nat) : Prop extends Cg X E k where
  takes : L2N.Takes X (fun cls d _ H => E cls d H)
  own : PassesOwn (model X.prog X.w) X.A X.env X.xe
  hu : X.A.units + 64 < cLine
section
variable {P : Program} {w : World} {K : PySem.W.Frag} {mg : Str → Option Value} {base : Heap}
theorem cd_of {N : List Str} {qual : Str} {st : Stmt} {f : Addr} {cdv : Value} {A : Around} {outer : List Env} {s : Shared} {H : Hp} {E : XK} {k : Nat} (nd : N.Nodup) (hr : Room k (A.deeper (envOfC qual (defScope st) s.heap.objs.size f cdv))) : Cd (cx P w K mg base N qual st f cdv A outer s H E) E k :=
  have tk : L2N.Takes (cx P w K mg base N qual st f cdv A outer s H E) (fun cls d _ H => E cls d H) := L2N.takes_of rfl rfl rfl rfl
  { calm := rfl, nd := nd, room := hr, pass := L2N.passes_call tk fun _ _ _ _ h => h, takes := tk, own := passes_of rfl, hu := hr.units }
theorem fun_okN {x qual : Str} {st : Stmt} {f : Addr} {fd : FuncData} {N ps : List Str} {k : Nat} {sp : Sp} (F : Fun K x qual st f fd) (S : FnScope N ps (defScope st)) (hl : ∀ vs H Q E, sp vs H Q E → vs.length = ps.length)
    (body : ∀ cdv A outer s H vs Q E, Room k (A.deeper (envOfC qual (defScope st) s.heap.objs.size f cdv)) → sp vs H Q E → ∃ t, PSs (cx P w K mg base N qual st f cdv A outer s H E) (defBody st) t ∧ t { nx := fun _ H' => Q .non H', rt := Q } (L2.start N vs) H) :
    FnOk P w K mg base (L2N.CX P w) (k + 1) f fd ps sp := by
  obtain ⟨oc, od, kV, doc, pm, an, cdv, ct, osl, e, lk, hcd⟩ := F.ex
  subst e
  exact fn_of lk hcd S hl fun A outer s H vs Q E => body _ A outer s H vs Q E
theorem def_ok {x qual : Str} {st : Stmt} {f : Addr} {fd : FuncData} {N ps : List Str} {k : Nat} {den : List D → W D} (F : Fun K x qual st f fd) (S : FnScope N ps (defScope st)) (hm : mg x = some (.ref f)) (hb : Binds K fd ps [])
    (body : ∀ cdv A outer s H E, Cd (cx P w K mg base N qual st f cdv A outer s H E) E k → ∀ ds, ds.length = ps.length → SR (cx P w K mg base N qual st f cdv A outer s H E) E true (defBody st) (ds.map SV.d ++ List.replicate (N.length - ds.length) SV.no) (den ds)) :
    DefD P w K mg base (k + 1) x ps (SpD K mg ps.length den) := by
  refine ⟨f, fd, fun_okN F S (fun vs H Q E h => ?_) (fun cdv A outer s H vs Q E hr h => ?_), hm, F.kp, hb⟩
  · obtain ⟨Mb, B, ds, P, EE, e, _⟩ := h
    exact e
  · obtain ⟨Mb, B, ds, P', EE, e, o, il, p, q, ee⟩ := h
    refine ⟨_, pss_w, ?_⟩
    have C := cd_of (P := P) (w := w) (K := K) (mg := mg) (base := base) (outer := outer) (H := H) (E := E) S.nd hr
    refine body cdv A outer s H E C ds (by rw [← il.len, e]) Mb B H Mb _ H P' EE _ ⟨.refl, fun _ m => .inl m⟩ o (startRp il) p (fun d v H' pd sb o' iv => q d v H' pd ⟨sb, o'⟩ iv) (fun _ _ _ h => h) fun x H' ex sb o' => ee x H' ex ⟨sb, o'⟩
end
end DG

/-! ## DG9 -/
set_option Elab.async false
set_option linter.all false
set_option maxRecDepth 100000
set_option maxHeartbeats 4000000
namespace DG
open PySem PySem.Spec PyProof.Rows L2

/-! ### enumerate over a tuple -/
/-- one more argument for the library's way of making an enumerate object: whatever begins -/
theorem meets_enumB {v : Value} {o : Obj} {H : Heap → Prop} (B : Begins v o H) :
    Meets (Builtin.«enumerate.__new__» ⟨[.type "enumerate", v], []⟩) (fun _ R s => H s.heap ∧
      R (.ok (.ret (.ref (s.heap.push o).objs.size))) { s with heap := (s.heap.push o).push { cls := .type "enumerate", data := .fields #[.none, .bool false, .ref s.heap.objs.size, rawInt 0, .none, .none] } }) :=
  .of_wp fun prog w A R s hh => by
    obtain ⟨hp, g, d, tk, os⟩ := s
    obtain ⟨h1, h2⟩ := hh
    have hsub := sub_enumerate
    have q1 : ∀ {A' : Around} {E : Value → Shared → Prop} {Q : Value → Shared → Prop}, Q (.ref hp.objs.size) ⟨hp.push o, g, d, tk, os⟩ → wpAny (model prog w) A' (pyIter v) Q E ⟨hp, g, d, tk, os⟩ := fun q => B.iter prog w _ _ ⟨hp, g, d, tk, os⟩ _ h1 q
    wp_walk using q1
    refine wpAny_stack_any fun st => wpAny_pure ?_
    split
    · rename_i c _ _ _ _ _
      cases (c == Value.type "enumerate") <;> (wp_walk using q1; exact ⟨_, rfl, h2⟩)
    · wp_walk using q1
      exact ⟨_, rfl, h2⟩
theorem call_enumT {P : Program} {w : World} {A : Around} {E : Value → Shared → Prop} {s : Shared} {t : Addr} {items : Array Value} {Q : Value → Shared → Prop} (hT : s.heap.IsTuple t items)
    (h : ∀ h', IsEnum h' (s.heap.objs.size + 1) s.heap.objs.size 0 .none → h'.IsTupleIter s.heap.objs.size t 0 → (∀ b o, s.heap.get? b = some o → h'.get? b = some o) → Q (.ref (s.heap.objs.size + 1)) { s with heap := h' }) :
    wpAny (model P w) A (call (.type "enumerate") [.ref t]) Q E s := by
  refine callType_new F.called_enumerate (by decide) (F.typeCall_enumerate_1 _) (F.newCall_enumerate_1 _) (fun obj => F.args_object_init_2 obj _) F.entry_enumerate_new (meets_enumB (begins_tuple t items)) ⟨hT, ?_⟩
  have hz : (s.heap.push { cls := .type "tuple_iterator", data := .fields #[.ref t, .int 0 0] }).objs.size = s.heap.objs.size + 1 := Heap.size_push ..
  show _ ∧ _
  rw [hz]
  have he := Heap.get?_push_size (s.heap.push { cls := .type "tuple_iterator", data := .fields #[.ref t, .int 0 0] }) (o := { cls := .type "enumerate", data := .fields #[.none, .bool false, .ref s.heap.objs.size, rawInt 0, .none, .none] }) rfl
  rw [hz] at he
  exact ⟨⟨_, he, rfl⟩, h _ he ⟨_, Heap.get?_push_of_some _ (Heap.get?_push_size _ rfl), rfl, rfl⟩ fun b o x => Heap.get?_push_of_some _ (Heap.get?_push_of_some _ x)⟩
/-- the tuple at a, each item in a new pair -/
def ItEt (K : PySem.W.Frag) (a : Addr) : It where
  go := fun i H => ∃ (xs : List V) (x : V), SqT K H a xs ∧ xs[i]? = some x
  yld := fun i H v H' => ∃ T x, v = .ref T ∧ H T = none ∧ H' = upd H T (.tup [.int (i : Nat), x]) ∧ ∀ xs, SqT K H a xs → xs[i]? = some x
  stop := fun i H => ∃ xs : List V, SqT K H a xs ∧ xs.length ≤ i
theorem turn_enumT {P : Program} {w : World} {K : PySem.W.Frag} {elts : List Expr} {kk : Nat} {tpos : Pos} (a e it : Addr) (hai : a ≠ it) :
    Turn P w K (.Tuple elts kk tpos) (ItEt K a) [e, it] e (fun i h => (∃ old, IsEnum h e it ((i : Nat) : Int) old) ∧ h.IsTupleIter it a i ∧ e ≠ it ∧ e ≠ a) where
  mem := List.mem_cons_self
  obj := fun i h st b hb => by
    obtain ⟨⟨old, he⟩, ⟨o, ho, hc, hd⟩, _⟩ := st
    rcases List.mem_cons.mp hb with z | hb
    · rw [z]
      exact ⟨_, he, fun v q => nomatch q⟩
    · exact ⟨o, by rw [List.mem_singleton.mp hb]; exact ho, fun v q => by rw [hd] at q; cases q⟩
  keep := fun i h h' st k => by
    obtain ⟨⟨old, he⟩, hi, hne⟩ := st
    exact ⟨⟨old, k e (by simp) _ he⟩, hi.at fun o q => k it (by simp) o q, hne⟩
  item := by
    intro X hP hw hK hc i pins s σ H E I hf st hg
    subst hP hw hK
    obtain ⟨⟨old, he⟩, hit, hne, hea⟩ := st
    obtain ⟨xs, x, hq, hx⟩ := hg
    obtain ⟨its, rv, p, hz⟩ := I.tuple hq
    obtain ⟨u, hu, ru⟩ := rv.get hx
    have hel : e < s.heap.objs.size := Heap.lt_size he
    have hil : it < s.heap.objs.size := by obtain ⟨_, q, _⟩ := hit; exact Heap.lt_size q
    have hlt : i < its.toArray.size := by rw [List.size_toArray]; exact (List.getElem?_eq_some_iff.mp hu).1
    refine wpAny_pyNext_enum_itemD (Draws.tuple (A := X.A.in1) (I.ok.hd hc) it a hai its.toArray) he ⟨hit, p⟩ hlt hne (by simp [hne, hea]) fun y h' tk hy ho hst hT hsz hk => ?_
    have ey : y = u := by
      rw [List.getElem?_toArray, hu] at hy
      exact (Option.some.inj hy).symm
    subst ey
    refine ⟨_, rfl, wpAny_letOwnedTupleGo_enum (s := { s with heap := h', toks := tk + 1 }) ho fun h'' he' sb => ?_⟩
    have hT2 : h''.get? s.heap.objs.size = some { cls := .type "tuple", data := .seq #[.int i tk, y] } := (sb.2 _ (Nat.ne_of_gt hel)).trans hT
    have new : ObjOk X.prog X.w (upd H s.heap.objs.size (.tup [.int (i : Nat), x])) h'' s.heap.objs.size (.tup [.int (i : Nat), x]) := ⟨by show 2 ≤ sizeLine; decide, [.int i tk, y], .cons ⟨_, rfl⟩ (.cons ru .nil), ⟨_, hT2, rfl, _, rfl⟩⟩
    have I1 : Inv X pins σ (upd H s.heap.objs.size (.tup [.int (i : Nat), x])) { s with heap := h'', toks := tk + 1 } :=
      I.turnedNew (ch := [e, it]) (fun b ob hb q => (sb.2 b fun z => hb (by simp [z])).trans (hk b ob (fun z => hb (by simp [z])) (fun z => hb (by simp [z])) q)) hf (Nat.le_refl _) new
    refine ⟨.ref s.heap.objs.size, _, I1, rfl, ⟨_, x, rfl, I.hok.fresh (Nat.le_refl _), rfl, fun ys hy => by rw [I.tuple_inj hy hq]; exact hx⟩, ⟨⟨y, ?_⟩, hst.1.at fun o q => (sb.2 it (Ne.symm hne)).trans q, hne, hea⟩, fun b hb => ?_⟩
    · rw [show ((i + 1 : Nat) : Int) = (i : Int) + 1 by omega]
      exact he'
    · have hb' : b < s.heap.objs.size := by
        rcases List.mem_cons.mp hb with z | hb
        · rw [z]; exact hel
        · rw [List.mem_singleton.mp hb]; exact hil
      rw [upd_ne (Nat.ne_of_lt hb')]
      exact (hf b hb).1
  done := by
    intro X hP hw hK hc i pins s σ H E I hf st hg
    subst hP hw hK
    obtain ⟨⟨old, he⟩, hit, hne, hea⟩ := st
    obtain ⟨xs, hq, hx⟩ := hg
    obtain ⟨its, rv, p, hz⟩ := I.tuple hq
    obtain ⟨f0, f1, f2, f3, f4, f5⟩ := hf it (List.mem_cons_of_mem _ List.mem_cons_self)
    have hl := rv.length
    have ha : its.toArray[i]? = none := by simp; omega
    have hT : s.TypeIs (.ref e) "enumerate" := ⟨_, he, rfl⟩
    unfold pyNext
    refine wpAny_bind (wpAny_attempt (wpAny_callSpecial?_slot (name := Str.ofString "__next__") hT F.slot_enumerate_next (wpAny_call_entry F.slot_enumerate_next hT F.entry_enumerate_next ?_ (F.args_enumerate_next_1 _))))
    show wpAny _ _ (PySem.field (.ref e) 2 >>= _) _ _ _
    refine wpAny_bind (wpAny_field he rfl (x := .ref it) rfl ?_)
    refine wpAny_bind (wpAny_nextOf_tuple_end (A := X.A.in1) (I.ok.hd hc) hit p ha fun h' x he' hx' => ?_)
    obtain ⟨o, ho, hcl⟩ := hx'
    refine wpAny_bind (wpAny_isInstance (T := "StopIteration") (b := true) ⟨o, ho, hcl⟩ isSubtype_stop (wpAny_pure ?_))
    exact ⟨rfl, I.turned (t' := s.toks) (fun b o hb q => he' b o hb q) f0 f1 f3 f4 f5⟩
  self := fun A i s Q E st h => let ⟨⟨_, he⟩, _⟩ := st; wpAny_pyIter_enum he h
def iEnumT (K : PySem.W.Frag) (ta : TA) : TI := fun σ H R => ta σ H fun vs H1 => ∃ a xs, vs = [.ref a] ∧ SqT K H1 a xs ∧ R (ItEt K a) H1
theorem pi_enumT {X : Cx} {e : Expr} {ta : TA} {p pos tpos : Pos} {elts : List Expr} {kk : Nat} (hg : Gl X "enumerate") (hm : X.mg "enumerate" = none) (ha : PA X [e] ta) (hs : starEach [e] X.env = [(false, eval e X.env)] := by rfl) :
    PI X (.Tuple elts kk tpos) (.Call (.Name "enumerate" p) [e] [] pos) (iEnumT X.K ta) := by
  refine ⟨fun pins s σ H R I h => ?_⟩
  refine Call_ (ld_blt I hg hm boot_enumerate (PyProof.Rows.callWith_type1 (thn (ha.run pos pins s σ H _ I h) fun us s1 ⟨vs, H1, I1, r1, q1⟩ => ?_) hs rfl))
  obtain ⟨a, xs, ex, hq, q⟩ := q1
  subst ex
  obtain ⟨u, rfl, r⟩ := Vals.one r1
  cases r
  obtain ⟨its, rv, p', hz⟩ := I1.tuple hq
  refine call_enumT p' fun h' he hit hk => wpAny_pyIter_enum he ?_
  have I2 : Inv X pins σ H1 { s1 with heap := h' } := I1.kept (t' := s1.toks) hk
  have hal : a < s1.heap.objs.size := p'.lt
  refine ⟨s1.heap.objs.size + 1, [s1.heap.objs.size + 1, s1.heap.objs.size], _, _, H1, rfl, I2, turn_enumT a (s1.heap.objs.size + 1) s1.heap.objs.size (Nat.ne_of_lt hal), ⟨⟨.none, he⟩, hit, Nat.succ_ne_self _, ?_⟩, fun b hb => ?_, q⟩
  · exact (Nat.ne_of_lt (Nat.lt_succ_of_lt hal)).symm
  · have hle : s1.heap.objs.size ≤ b := by
      rcases List.mem_cons.mp hb with z | hb
      · rw [z]; exact Nat.le_add_right _ _
      · rw [List.mem_singleton.mp hb]; exact Nat.le_refl _
    exact I1.fpOk hle (I1.hok.fresh hle)
end DG

/-! ## DG10 -/
set_option Elab.async false
set_option linter.all false
set_option maxRecDepth 100000
set_option maxHeartbeats 4000000
namespace DG
open PySem PySem.Spec PyProof.Rows L2

/-! ### constants of the module -/
theorem Post.here2 {X : Cx} {Mb M B : Addr → Prop} {H H1 : Hp} {P : D → Prop} {Q : VK} (h : Post X Mb M B H P Q) {d : Int} (p : P (.int d)) (g : Go Mb M B H H1) : Q (.int d) H1 := h _ _ _ p g rfl
def GlobD (K : PySem.W.Frag) (mg : Str → Option Value) (x : Str) (d : D) : Prop := ∃ u v, mg x = some u ∧ RelV v u ∧ KD K d v
section
variable {X : Cx} {E : XK} {ρ : List SV} {pos : Pos}
theorem ex_globF {x : Str} {d : D} (h : GlobD X.K X.mg x d) (hg : Gl X x := by rfl) (hd : (x == ("__debug__" : Str)) = false := by decide) : EX X E (.Name x pos) ρ (pure d) := by
  obtain ⟨u, v, hm, r, k⟩ := h
  exact ex_glob hm r k hg hd

/-! ### isinstance -/
def D.ty? : D → Option String
  | .non => some "NoneType"
  | .bl _ => some "bool"
  | .int _ => some "int"
  | .str _ => some "str"
  | .tup _ => some "tuple"
  | .lst _ => some "list"
  | _ => none
def isiD (d : D) (T : String) : W D := match d.ty? with
  | some t => (match kitB t T with | some b => pure (.bl b) | none => stuck)
  | none => stuck
theorem tyx_of {K : PySem.W.Frag} {M B : Addr → Prop} {H : Hp} {d : D} {v : V} {t : String} (h : d.ty? = some t) (i : Is K M B H d v) : TyX K H v (.type t) := by
  cases d with
  | non => cases h; rw [show v = .non from i]; exact .base .non
  | bl b => cases h; rw [show v = .bl b from i]; exact .base (.bl b)
  | int b => cases h; rw [show v = .int b from i]; exact .base (.int b)
  | str b => cases h; rw [show v = .str b from i]; exact .base (.str b)
  | tup ds =>
    cases h
    obtain ⟨a, vs, e, s, _⟩ := isT i
    rw [e]
    rcases s with ⟨o, e1, _⟩ | ⟨o, _, _, e1, e2, _⟩
    · exact .fTuple e1
    · exact .kTuple e1 e2
  | lst ds =>
    cases h
    obtain ⟨a, vs, e, _, l, _⟩ := isLs i
    rw [e]
    exact .base (.lst l)
  | _ => cases h
theorem ex_isi {e : Expr} {m : W D} {T : Str} {ty : String} {p p2 : Pos} (he : EX X E e ρ m) (hm : X.mg "isinstance" = none) (hT : X.mg T = none) (hv : bootBuiltins T = some (.type ty)) (hg : Gl X "isinstance" := by rfl) (hgT : Gl X T := by rfl)
    (hn : T ≠ "__name__" := by decide) (hdb : (T == ("__debug__" : Str)) = false := by decide) (st1 : starEach [e, .Name T p2] X.env = (false, eval e X.env) :: starEach [.Name T p2] X.env := by rfl) (st2 : starEach [.Name T p2] X.env = (false, eval (.Name T p2) X.env) :: starEach [] X.env := by rfl)
    (hpl : (backTo pos (starEach [.Name T p2] X.env)).any (·.1) = false := by rfl) : EX X E (.Call (.Name "isinstance" p) [e, .Name T p2] [] pos) ρ (do let d ← m; isiD d ty) := by
  intro Mb M B σ H P EE Q o rp pm q ee
  refine of_pe (pe_callB call_isi hg hm (by decide +kernel) (pa_cons pe_w (pa_cons (pe_bltn hgT hT hv (v := .ty ty) rfl hn hdb) pa_nil st2) st1) (by decide) (by decide) st1 hpl) ?_
  refine he Mb M B σ H (fun d => isiD d ty P EE) EE _ o rp pm (fun d v H1 pd g1 iv => ?_) ee
  have pd' : (match d.ty? with | some t => (match kitB t ty with | some b => pure (.bl b) | none => stuck) | none => stuck : W D) P EE := pd
  cases h1 : d.ty? with
  | none => rw [h1] at pd'; exact False.elim pd'
  | some t =>
    rw [h1] at pd'
    cases h2 : kitB t ty with
    | none => simp only [h2] at pd'; exact False.elim pd'
    | some b =>
      simp only [h2] at pd'
      exact ⟨v, .ty ty, .type t, .type ty, b, rfl, .ty ty, tyx_of h1 iv, kit_ty h2, q (.bl b) _ H1 pd' g1 rfl⟩

/-! ### t.index(x) -/
def tupD : D → W (List D)
  | .tup ds => pure ds
  | _ => stuck
def idxOfD (ds : List D) : D → W D
  | .str z => optW (strsOf ds) fun ys => if z ∈ ys then pure (.int (ys.idxOf z : Nat)) else stuck
  | _ => stuck
theorem idxOf_first {z : Str} : ∀ {ys : List Str}, z ∈ ys → ys[ys.idxOf z]? = some z ∧ ∀ m, m < ys.idxOf z → ys[m]? ≠ some z
  | [], h => by cases h
  | y :: ys, h => by
    by_cases q : y = z
    · subst q
      rw [List.idxOf_cons_self]
      exact ⟨rfl, fun m h => absurd h (Nat.not_lt_zero m)⟩
    · have h' : z ∈ ys := (List.mem_cons.mp h).resolve_left fun e => q e.symm
      have e : (y :: ys).idxOf z = ys.idxOf z + 1 := by
        rw [List.idxOf_cons]
        have : (y == z) = false := beq_eq_false_iff_ne.mpr q
        rw [this]
        rfl
      obtain ⟨h1, h2⟩ := idxOf_first h'
      rw [e]
      refine ⟨by simpa using h1, fun m hm => ?_⟩
      cases m with
      | zero => simpa using q
      | succ m => simpa using h2 m (by omega)
theorem ex_index {o e : Expr} {mo me : W D} {apos cpos : Pos} (ho : EX X E o ρ mo) (he : EX X E e ρ me)
    (hbase : attributeBase o "index" X.env (eval o X.env) = eval o X.env := by rfl)
    (hfew : ((backTo cpos (starEach [e] X.env)).all (fun x => !x.1) && (backToKw cpos (keywordEach [] X.env)).all (fun x => x.1.isSome)
      && decide ([e].length + ([] : List Keyword).length + (if ([] : List Keyword).isEmpty then 0 else 1) < 30)) = true := by rfl)
    (hline : (apos.endLine == cpos.line) = true := by rfl) (hs : starEach [e] X.env = (false, eval e X.env) :: starEach [] X.env := by rfl) (hplain : (backTo cpos (starEach [] X.env)).any (·.1) = false := by rfl) :
    EX X E (.Call (.Attribute o "index" apos) [e] [] cpos) ρ (do let x ← mo; let ds ← tupD x; let y ← me; idxOfD ds y) := by
  intro Mb M B σ H P EE Q ok rp pm q ee
  refine of_pe (pe_bmN PySem.F.slot_tuple_index PySem.F.type_tuple_index mt_tup_index pe_w (pa_cons pe_w pa_nil hs) hbase hfew hline hs hplain) ?_
  refine ho Mb M B σ H (fun x => ((do let ds ← tupD x; let y ← me; idxOfD ds y) : W D) P EE) EE _ ok rp pm (fun x vx H1 px g1 ix => ?_) ee
  cases x with
  | tup ds =>
    obtain ⟨a, vs, e1, s, il⟩ := isT ix
    refine ⟨⟨a, vs, e1, s⟩, ?_⟩
    refine he Mb M B σ H1 (fun y => idxOfD ds y P EE) EE _ g1.ok (rp.go ok g1) px (fun y vy H2 py g2 iy => ?_) (ee.go g1)
    cases y with
    | str z =>
      have py' : (optW (strsOf ds) fun ys => if z ∈ ys then pure (.int (ys.idxOf z : Nat)) else stuck : W D) P EE := py
      cases hb : strsOf ds with
      | none => rw [hb] at py'; exact False.elim py'
      | some ys =>
        rw [hb] at py'
        have e2 := allOf_eq str?_eq hb
        subst e2
        have py2 : (if z ∈ ys then pure (.int (ys.idxOf z : Nat)) else stuck : W D) P EE := py'
        by_cases hz : z ∈ ys
        · rw [if_pos hz] at py2
          have il2 := IsL.keep (g2.kept g1.ok) (fun _ b => b) _ _ il
          have s2 := (g2.kept g1.ok).sqN s
          have e3 := il2.strs
          subst e3
          obtain ⟨f1, f2⟩ := idxOf_first hz
          exact ⟨a, ys, z, ys.idxOf z, e1, by rw [show vy = .str z from iy], s2.sqT, f1, f2, q.here2 py2 (g1.trans g2)⟩
        · rw [if_neg hz] at py2
          exact False.elim py2
    | _ => exact False.elim py
  | _ => exact False.elim px
end
end DG

/-! ## DG11 -/
set_option Elab.async false
set_option linter.all false
set_option maxRecDepth 100000
set_option maxHeartbeats 4000000
namespace DG
open PySem PySem.Spec PyProof.Rows L2

/-! ### enumerate of a list or a tuple -/
section
variable {K : PySem.W.Frag} {Mb M B : Addr → Prop} {H : Hp} {ds : List D} {vs : List V} {a : Addr}
theorem walk_enumT (h : SqT K H a vs) (il : IsL K M B H ds vs) : Walk K M B H (enumL 0 ds) (ItEt K a) where
  go := fun Mb' M' H2 i o k hi => by
    rw [enumL_len] at hi
    have hv : i < vs.length := by rw [il.len]; omega
    exact ⟨vs, _, k.sqT h, List.getElem?_eq_getElem hv⟩
  yl := fun Mb' M' H2 i d x H3 o k hd y => by
    obtain ⟨T, x1, rfl, hT, rfl, y1⟩ := y
    obtain ⟨d1, e1, rfl⟩ := enumL_get _ _ _ _ hd
    obtain ⟨v1, f1, i1⟩ := (k.isL il).get e1
    have g1 := y1 vs (k.sqT h)
    rw [f1] at g1
    cases g1
    have g := Go.new (u := .tup [.int i, x1]) o hT
    refine ⟨g, T, _, rfl, .of upd_same, .int i, _, rfl, ?_, x1, [], rfl, i1.mono g.ext o, rfl⟩
    show V.int i = V.int (0 + i : Nat)
    rw [Nat.zero_add]
  st := fun Mb' M' H2 i o k hi => by
    replace hi := Nat.le_of_eq hi.symm
    rw [enumL_len] at hi
    exact ⟨vs, k.sqT h, by rw [il.len]; exact hi⟩
end
def iEnumA (K : PySem.W.Frag) (ta : TA) : TI := fun σ H R => ta σ H fun vs H1 => ∃ a xs, vs = [.ref a] ∧ ((SqL K H1 a xs ∧ R (Ite K a) H1) ∨ (SqT K H1 a xs ∧ R (ItEt K a) H1))
theorem pi_enumA {X : Cx} {e : Expr} {ta : TA} {p pos tpos : Pos} {elts : List Expr} {kk : Nat} (hg : Gl X "enumerate") (hm : X.mg "enumerate" = none) (ha : PA X [e] ta) (hs : starEach [e] X.env = [(false, eval e X.env)] := by rfl) :
    PI X (.Tuple elts kk tpos) (.Call (.Name "enumerate" p) [e] [] pos) (iEnumA X.K ta) := by
  refine ⟨fun pins s σ H R I h => ?_⟩
  refine Call_ (ld_blt I hg hm boot_enumerate (PyProof.Rows.callWith_type1 (thn (ha.run pos pins s σ H _ I h) fun us s1 ⟨vs, H1, I1, r1, q1⟩ => ?_) hs rfl))
  obtain ⟨a, xs, ex, q1⟩ := q1
  subst ex
  obtain ⟨u, rfl, r⟩ := Vals.one r1
  cases r
  have low : ∀ b ∈ [s1.heap.objs.size + 1, s1.heap.objs.size], s1.heap.objs.size ≤ b := fun b hb => by
    rcases List.mem_cons.mp hb with z | hb
    · rw [z]; exact Nat.le_add_right _ _
    · rw [List.mem_singleton.mp hb]; exact Nat.le_refl _
  rcases q1 with ⟨hq, q⟩ | ⟨hq, q⟩
  · obtain ⟨its, rv, p', hz⟩ := I1.list hq
    refine call_enumerate_list p'.isList fun h' he hit hsz hk => wpAny_pyIter_enum he ?_
    have I2 : Inv X pins σ H1 { s1 with heap := h' } := I1.kept (t' := s1.toks) hk
    exact ⟨s1.heap.objs.size + 1, [s1.heap.objs.size + 1, s1.heap.objs.size], _, _, H1, rfl, I2, turn_enum a (s1.heap.objs.size + 1) s1.heap.objs.size, ⟨⟨.none, he⟩, hit, Nat.succ_ne_self _⟩, fun b hb => I1.fpOk (low b hb) (I1.hok.fresh (low b hb)), q⟩
  · obtain ⟨its, rv, p', hz⟩ := I1.tuple hq
    refine call_enumT p' fun h' he hit hk => wpAny_pyIter_enum he ?_
    have I2 : Inv X pins σ H1 { s1 with heap := h' } := I1.kept (t' := s1.toks) hk
    have hal : a < s1.heap.objs.size := p'.lt
    exact ⟨s1.heap.objs.size + 1, [s1.heap.objs.size + 1, s1.heap.objs.size], _, _, H1, rfl, I2, turn_enumT a (s1.heap.objs.size + 1) s1.heap.objs.size (Nat.ne_of_lt hal), ⟨⟨.none, he⟩, hit, Nat.succ_ne_self _, (Nat.ne_of_lt (Nat.lt_succ_of_lt hal)).symm⟩, fun b hb => I1.fpOk (low b hb) (I1.hok.fresh (low b hb)), q⟩
def enumD : D → W (List D)
  | .lst ds => pure (enumL 0 ds)
  | .tup ds => pure (enumL 0 ds)
  | _ => stuck
section
variable {X : Cx} {E : XK} {ρ : List SV} {pos : Pos}
theorem ix_enum {e : Expr} {m : W D} {p tpos : Pos} {elts : List Expr} {kk : Nat} (he : EX X E e ρ m) (hm : X.mg "enumerate" = none) (hg : Gl X "enumerate" := by rfl) (hs : starEach [e] X.env = [(false, eval e X.env)] := by rfl) (hs2 : starEach [e] X.env = (false, eval e X.env) :: starEach [] X.env := by rfl) :
    IX X E (.Tuple elts kk tpos) (.Call (.Name "enumerate" p) [e] [] pos) ρ (do let x ← m; enumD x) := by
  intro Mb M B σ H P EE R o rp pm q ee
  refine of_pi (pi_enumA hg hm (pa_cons pe_w pa_nil hs2) hs) ?_
  refine he Mb M B σ H (fun x => enumD x P EE) EE _ o rp pm (fun x vx H1 px g1 ix => ?_) ee
  cases x with
  | lst ds =>
    obtain ⟨a, xs, e1, n, l, il⟩ := isLs ix
    exact ⟨a, xs, by rw [e1], .inl ⟨.of l, q _ _ H1 px g1 (walk_enumL n l il)⟩⟩
  | tup ds =>
    obtain ⟨a, xs, e1, l, il⟩ := isT ix
    exact ⟨a, xs, by rw [e1], .inr ⟨l.sqT, q _ _ H1 px g1 (walk_enumT l.sqT il)⟩⟩
  | _ => exact False.elim px

/-! ### while -/
def whileW {S : Type} (c : S → W Bool) (f : S → W S) (s : S) : W S := fun Q E => ∃ (J : S → Prop) (μ : S → Nat), J s ∧ ∀ s, J s → c s (fun b => if b = true then f s (fun s' => J s' ∧ μ s' < μ s) E else Q s) E
theorem s1_while {S : Type} {c : Expr} {body : List Stmt} {mk : S → List SV} {s0 : S} {mc : S → W Bool} {f : S → W S} (hp : PassesOwn (model X.prog X.w) X.A X.env X.xe) (h0 : LeS ρ (mk s0)) (hc : ∀ s, ET X E c (mk s) (mc s)) (hb : ∀ s, SN X E body (mk s) mk (f s)) :
    S1 X E (.While c body [] pos) ρ mk (whileW mc f s0) := by
  intro Mb B Hb M σ H P EE D bs o r p en ee
  refine of_ps (ps_while hp pt_w pss_w) ?_
  obtain ⟨J, μ, j0, st⟩ := p
  refine ⟨fun m σ' H' => ∃ s M', m = μ s ∧ J s ∧ Bs Mb Hb M' B H' ∧ Ok Mb M' B H' ∧ Rp X.K Mb M' B σ' H' (mk s), ⟨_, s0, M, rfl, j0, bs, o, r.le h0⟩, fun m σ' H' ⟨s, M', em, j, b2, o2, r2⟩ => ?_⟩
  refine hc s Mb M' B σ' H' _ EE _ o2 r2 (st s j) (fun b H3 pb g3 => ?_) (ee.post b2)
  cases b with
  | true =>
    have pb' : f s (fun s' => J s' ∧ μ s' < μ s) EE := pb
    show ∃ N, _ ∧ wSs X body _ σ' H3
    refine ⟨fun σ2 H2 => ∃ s2 M2, μ s2 < μ s ∧ J s2 ∧ Bs Mb Hb M2 B H2 ∧ Ok Mb M2 B H2 ∧ Rp X.K Mb M2 B σ2 H2 (mk s2), fun σ2 H2 ⟨s2, M2, l, z⟩ => ⟨μ s2, by rw [em]; exact l, s2, M2, rfl, z⟩, ?_⟩
    exact hb s Mb B Hb M' σ' H3 _ EE _ (b2.go g3) g3.ok (r2.go o2 g3) pb' (fun s2 M2 σ2 H2 ⟨j2, l⟩ b4 o4 r4 => ⟨s2, M2, l, j2, b4, o4, r4⟩) ee
  | false =>
    have pb' : P s := pb
    exact en s M' σ' H3 pb' (b2.go g3) g3.ok (r2.go o2 g3)

/-! ### the count of a bag is written -/
def cntD : D → W Unit
  | .int c => need (0 ≤ c) (pure ())
  | _ => stuck
theorem s1_bag (i : Nat) {x : Str} {e : Expr} {m : W D} {p1 p2 p3 : Pos} {j : Nat} (hc : X.calm = true) (h0 : ρ[i]? = some (.d .bag)) (he : EX X E e ρ m) (hN : X.N[i]? = some x := by rfl)
    (hv : Vis X.env.scope x := by first | exact Or.inl rfl | exact Or.inr (Or.inl rfl) | exact Or.inr (Or.inr rfl)) (hd : (x == ("__debug__" : Str)) = false := by decide) (hcd : (x == ("__classdict__" : Str)) = false := by decide)
    (hs : swapsWithSole [.Subscript (.Name x p1) (.Constant (.int 1) j p2) p3] e pos.line X.env = pure false := by rfl) (hw : swappedStores [.Subscript (.Name x p1) (.Constant (.int 1) j p2) p3] e X.env = pure none := by rfl)
    (h1 : (assignEach [.Subscript (.Name x p1) (.Constant (.int 1) j p2) p3] X.env).map (·.2) = [assign (.Subscript (.Name x p1) (.Constant (.int 1) j p2) p3) X.env] := by rfl)
    (ha : ∀ v, assign (.Subscript (.Name x p1) (.Constant (.int 1) j p2) p3) X.env v = (do
      let ov ← holding [v] (eval (.Name x p1) X.env)
      let iv ← holding [v, ov] (eval (.Constant (.int 1) j p2) X.env)
      standAt p3
      holding [v, ov, iv] (setItem ov iv v)
      release [v, ov, iv] []) := by intro _; rfl) :
    S1 X E (.Assign [.Subscript (.Name x p1) (.Constant (.int 1) j p2) p3] e pos) ρ (fun _ : Unit => ρ) (do let d ← m; cntD d) := by
  intro Mb B Hb M σ H P EE D bs o r p en ee
  refine of_ps (ps_asg pe_w (pg_sub (pe_var hN hv hd hcd) pe_int set_list ha) hs hw h1) ?_
  refine he Mb M B σ H (fun d => cntD d P EE) EE _ o r p (fun d v H1 pd g1 iv => ?_) (ee.post bs)
  cases d with
  | int c =>
    have pd' : 0 ≤ c ∧ P () := pd
    have ev : v = .int c := iv
    subst ev
    have r1 := r.go o g1
    obtain ⟨w, e0, l, e1, b⟩ := r1.get h0
    obtain ⟨q, n, ds, h1, nq, h3, l4, h5, h6⟩ := g1.ok.bg l b
    have ml : M l := o.mm l (o.bm l b)
    have up : upd H1 l (.lst ([V.ref q, .int n].set 1 (.int c))) = upd H1 l (.lst [.ref q, .int c]) := rfl
    refine ⟨w, e0, l, [.ref q, .int n], 1, 1, e1, rfl, h1, by rfl, ?_⟩
    rw [up]
    have ex : Ext B H1 (upd H1 l (.lst [.ref q, .int c])) := by
      refine ⟨fun a u hu nb => ?_, fun a q' c' ba hq' h0' => ?_⟩
      · rw [upd_ne fun z => nb (by rw [z]; exact b)]
        exact hu
      · by_cases z : a = l
        · subst z
          rw [h1] at hq'
          cases hq'
          exact ⟨c, pd'.1, upd_same⟩
        · rw [upd_ne z]
          exact ⟨c', h0', hq'⟩
    have g2 : Go Mb M B H1 (upd H1 l (.lst [.ref q, .int c])) := ⟨ex, g1.ok.ext ex⟩
    exact en () M _ _ pd'.2 ((bs.go g1).go g2) g2.ok (r1.go g1.ok g2)
  | _ => exact False.elim pd

/-! ### a block that hands back a new list -/
def EndF (Mb B : Addr → Prop) (Hb : Hp) (K : PySem.W.Frag) (P : List D → Prop) (rt : VK) : Prop := ∀ ds p ws H', P ds → Ext B Hb H' → Ok Mb Mb B H' → Hb p = none → H' p = some (.lst ws) → IsL K (fun a => Mb a ∨ a = p) B H' ds ws → rt (.ref p) H'
def SF (X : Cx) (E : XK) (st : List Stmt) (ρ : List SV) (m : W (List D)) : Prop := ∀ Mb B Hb M σ H P EE (D : Ends), Bs Mb Hb M B H → Ok Mb M B H → Rp X.K Mb M B σ H ρ → m P EE → EndF Mb B Hb X.K P D.rt → EndE X E Mb B Hb EE → wSs X st D σ H
theorem sf_cons {T : Type} {s : Stmt} {rest : List Stmt} {mk1 : T → List SV} {m : W T} {n : T → W (List D)} (h : S1 X E s ρ mk1 m) (hr : ∀ t, SF X E rest (mk1 t) (n t)) : SF X E (s :: rest) ρ (do let t ← m; n t) := by
  intro Mb B Hb M σ H P EE D bs o r p er ee
  refine of_pss (pss_cons ps_w pss_w) ?_
  exact h Mb B Hb M σ H (fun t => n t P EE) EE _ bs o r p (fun t M' σ' H' pt b2 o2 r2 => hr t Mb B Hb M' σ' H' P EE D b2 o2 r2 pt er ee) ee
theorem sf_ifr {c : Expr} {a rest : List Stmt} {mc : W Bool} {ma n : W (List D)} (hc : ET X E c ρ mc) (ha : SF X E a ρ ma) (hr : SF X E rest ρ n) : SF X E (.If c a [] pos :: rest) ρ (do let t ← mc; if t then ma else n) := by
  intro Mb B Hb M σ H P EE D bs o r p er ee
  refine of_pss (pss_cons (ps_if pt_w pss_w pss_nil) pss_w) ?_
  refine hc Mb M B σ H (fun t => (if t then ma else n : W (List DG.D)) P EE) EE _ o r p (fun t H1 pt g1 => ?_) (ee.post bs)
  cases t with
  | true => exact ha Mb B Hb M σ H1 P EE _ (bs.go g1) g1.ok (r.go o g1) pt er ee
  | false => exact hr Mb B Hb M σ H1 P EE D (bs.go g1) g1.ok (r.go o g1) pt er ee
theorem sf_ret {e : Expr} {rest : List Stmt} {ρ' : List SV} {m : W (List D)} (he : EF X E e ρ' m) (h : ρ.map fzS = ρ' := by rfl) : SF X E (.Return (some e) pos :: rest) ρ m := by
  intro Mb B Hb M σ H P EE D bs o r p er ee
  refine of_pss (pss_cons (ps_ret pe_w) (pss_never)) ?_
  have r2 := r.fz o
  rw [h] at r2
  have b2 : Bs Mb Hb Mb B H := ⟨bs.hb, fun a m => .inl m⟩
  exact he Mb Mb B σ H P EE _ o.down r2 p (fun ds q ws H1 pd g1 n l il => er ds q ws H1 pd (b2.go g1).hb g1.ok (b2.no o.down n) l il) (ee.post b2)
/-- return x, x an own list -/
theorem sf_own (i : Nat) {x : Str} {p1 : Pos} {rest : List Stmt} {ds : List D} (h0 : ρ[i]? = some (.own ds) := by rfl) (hN : X.N[i]? = some x := by rfl)
    (hv : Vis X.env.scope x := by first | exact Or.inl rfl | exact Or.inr (Or.inl rfl) | exact Or.inr (Or.inr rfl)) (hd : (x == ("__debug__" : Str)) = false := by decide) (hcd : (x == ("__classdict__" : Str)) = false := by decide) :
    SF X E (.Return (some (.Name x p1)) pos :: rest) ρ (pure ds) := by
  intro Mb B Hb M σ H P EE D bs o r p er ee
  refine of_pss (pss_cons (ps_ret (pe_var hN hv hd hcd)) (pss_never)) ?_
  obtain ⟨y, e0, q, vs, e1, mq, nq, l, il⟩ := r.sl i _ h0
  refine ⟨.ref q, by rw [e0, e1], ?_⟩
  exact er ds q vs H p bs.hb o.down ((bs.mb q mq).resolve_left nq) l (il.less fun a z => z.elim (o.mm a) fun e => e ▸ mq)
end
section
variable {P : Program} {w : World} {K : PySem.W.Frag} {mg : Str → Option Value} {base : Heap}
theorem def_okF {x qual : Str} {st : Stmt} {f : Addr} {fd : FuncData} {N ps : List Str} {k : Nat} {den : List D → W (List D)} (F : Fun K x qual st f fd) (S : FnScope N ps (defScope st)) (hm : mg x = some (.ref f)) (hb : Binds K fd ps [])
    (body : ∀ cdv A outer s H E, Cd (cx P w K mg base N qual st f cdv A outer s H E) E k → ∀ ds, ds.length = ps.length → SF (cx P w K mg base N qual st f cdv A outer s H E) E (defBody st) (ds.map SV.d ++ List.replicate (N.length - ds.length) SV.no) (den ds)) :
    DefD P w K mg base (k + 1) x ps (SpF K mg ps.length den) := by
  refine ⟨f, fd, fun_okN F S (fun vs H Q E h => ?_) (fun cdv A outer s H vs Q E hr h => ?_), hm, F.kp, hb⟩
  · obtain ⟨Mb, B, ds, P, EE, e, _⟩ := h
    exact e
  · obtain ⟨Mb, B, ds, P', EE, e, o, il, p, q, ee⟩ := h
    refine ⟨_, pss_w, ?_⟩
    have C := cd_of (P := P) (w := w) (K := K) (mg := mg) (base := base) (outer := outer) (H := H) (E := E) S.nd hr
    refine body cdv A outer s H E C ds (by rw [← il.len, e]) Mb B H Mb _ H P' EE _ ⟨.refl, fun _ m => .inl m⟩ o (startRp il) p (fun d p v H' pd sb o' n l iv => q d p v H' pd ⟨sb, o'⟩ n l iv) fun x H' ex sb o' => ee x H' ex ⟨sb, o'⟩
/-- a new list is a value -/
theorem DefD.plain {k : Nat} {x : Str} {ps : List Str} {n : Nat} {den : List D → W (List D)} (h : DefD P w K mg base k x ps (SpF K mg n den)) : DefD P w K mg base k x ps (SpD K mg n fun ds => do let r ← den ds; pure (.lst r)) := by
  obtain ⟨f, fd, F, r⟩ := h.ex
  refine ⟨f, fd, F.imp fun vs H Q E hh => ?_, r⟩
  obtain ⟨Mb, B, ds, P', EE, e, o, il, p, q, ee⟩ := hh
  exact ⟨Mb, B, ds, fun r => P' (.lst r), EE, e, o, il, p, fun d p ws H' pd g n l i => q (.lst d) _ H' pd g ⟨p, ws, rfl, o.nm n, l, i.less fun _ m => .inl m⟩, ee⟩
end
end DG

/-! ## DG12 -/
set_option Elab.async false
set_option linter.all false
set_option maxRecDepth 100000
set_option maxHeartbeats 4000000
namespace DG
open PySem PySem.Spec PyProof.Rows L2

/-! ### a def that hands back two new lists and a value -/
abbrev D3 := List D × List D × D
def Is3 (K : PySem.W.Frag) (M B : Addr → Prop) (Hb H : Hp) (r : D3) (v : V) : Prop :=
  ∃ t p q va vb vc, v = .ref t ∧ SqN K H t [.ref p, .ref q, vc] ∧ Hb p = none ∧ Hb q = none ∧ ¬ M p ∧ ¬ M q ∧ H p = some (.lst va) ∧ H q = some (.lst vb) ∧ r.1.all D.flat = true ∧ r.2.1.all D.flat = true ∧ IsL K M B H r.1 va ∧ IsL K M B H r.2.1 vb ∧ Is K M B H r.2.2 vc
def End3 (Mb B : Addr → Prop) (Hb : Hp) (K : PySem.W.Frag) (P : D3 → Prop) (rt : VK) : Prop := ∀ r v H', P r → Ext B Hb H' → Ok Mb Mb B H' → Is3 K Mb B Hb H' r v → rt v H'
def S3 (X : Cx) (E : XK) (st : List Stmt) (ρ : List SV) (m : W D3) : Prop := ∀ Mb B Hb M σ H P EE (D : Ends), Bs Mb Hb M B H → Ok Mb M B H → Rp X.K Mb M B σ H ρ → m P EE → End3 Mb B Hb X.K P D.rt → EndE X E Mb B Hb EE → wSs X st D σ H
section
variable {X : Cx} {E : XK} {ρ : List SV} {pos : Pos}
theorem s3_cons {T : Type} {s : Stmt} {rest : List Stmt} {mk1 : T → List SV} {m : W T} {n : T → W D3} (h : S1 X E s ρ mk1 m) (hr : ∀ t, S3 X E rest (mk1 t) (n t)) : S3 X E (s :: rest) ρ (do let t ← m; n t) := by
  intro Mb B Hb M σ H P EE D bs o r p er ee
  refine of_pss (pss_cons ps_w pss_w) ?_
  exact h Mb B Hb M σ H (fun t => n t P EE) EE _ bs o r p (fun t M' σ' H' pt b2 o2 r2 => hr t Mb B Hb M' σ' H' P EE D b2 o2 r2 pt er ee) ee
theorem s3_ret (i j l : Nat) {x y z : Str} {p1 p2 p3 pt : Pos} {k : Nat} {rest : List Stmt} {a b : List D} {c : D} (hij : i ≠ j) (h0 : ρ[i]? = some (.own a) := by rfl) (h1 : ρ[j]? = some (.own b) := by rfl) (h2 : ρ[l]? = some (.d c) := by rfl)
    (hN : X.N[i]? = some x := by rfl) (hN1 : X.N[j]? = some y := by rfl) (hN2 : X.N[l]? = some z := by rfl)
    (hv : Vis X.env.scope x := by first | exact Or.inl rfl | exact Or.inr (Or.inl rfl) | exact Or.inr (Or.inr rfl)) (hv1 : Vis X.env.scope y := by first | exact Or.inl rfl | exact Or.inr (Or.inl rfl) | exact Or.inr (Or.inr rfl)) (hv2 : Vis X.env.scope z := by first | exact Or.inl rfl | exact Or.inr (Or.inl rfl) | exact Or.inr (Or.inr rfl))
    (hd : (x == ("__debug__" : Str)) = false := by decide) (hcd : (x == ("__classdict__" : Str)) = false := by decide) (hd1 : (y == ("__debug__" : Str)) = false := by decide) (hcd1 : (y == ("__classdict__" : Str)) = false := by decide) (hd2 : (z == ("__debug__" : Str)) = false := by decide) (hcd2 : (z == ("__classdict__" : Str)) = false := by decide)
    (st1 : starEach [.Name x p1, .Name y p2, .Name z p3] X.env = (false, eval (.Name x p1) X.env) :: starEach [.Name y p2, .Name z p3] X.env := by rfl) (st2 : starEach [.Name y p2, .Name z p3] X.env = (false, eval (.Name y p2) X.env) :: starEach [.Name z p3] X.env := by rfl) (st3 : starEach [.Name z p3] X.env = (false, eval (.Name z p3) X.env) :: starEach [] X.env := by rfl) :
    S3 X E (.Return (some (.Tuple [.Name x p1, .Name y p2, .Name z p3] k pt)) pos :: rest) ρ (need (a.all D.flat = true ∧ b.all D.flat = true) (pure (a, b, c))) := by
  intro Mb B Hb M σ H P EE D bs o r p er ee
  refine of_pss (pss_cons (ps_ret (pe_tupN (pa_cons (pe_var hN hv hd hcd) (pa_cons (pe_var hN1 hv1 hd1 hcd1) (pa_cons (pe_var hN2 hv2 hd2 hcd2) pa_nil st3) st2) st1))) pss_never) ?_
  obtain ⟨xa, e0, q, va, e1, mq, nq, la, ia⟩ := r.sl i _ h0
  obtain ⟨xb, e0', q', vb, e1', mq', nq', lb, ib⟩ := r.sl j _ h1
  obtain ⟨vc, e2, ic⟩ := r.get h2
  refine ⟨.ref q, by rw [e0, e1], .ref q', by rw [e0', e1'], vc, e2, ?_⟩
  refine ⟨by show 3 ≤ sizeLine; rw [sizeLine_eq]; decide, fun t ob n nd => ?_⟩
  have g := Go.new (u := HO.frz ob (.tup [.ref q, .ref q', vc])) o n
  refine er (a, b, c) (.ref t) _ p.2 (bs.hb.trans g.ext) g.ok.down ⟨t, q, q', va, vb, vc, rfl, .inl ⟨ob, upd_same, nd⟩, (bs.mb q mq).resolve_left nq, (bs.mb q' mq').resolve_left nq', nq, nq', by rw [upd_ne (ne_of_none la n)]; exact la, by rw [upd_ne (ne_of_none lb n)]; exact lb, p.1.1, p.1.2, ia.flat p.1.1, ib.flat p.1.2, (ic.mono g.ext o).less o.mm⟩
end
def Sp3 (K : PySem.W.Frag) (mg : Str → Option Value) (n : Nat) (den : List D → W D3) : Sp := fun vs H Q E => ∃ (Mb B : Addr → Prop) (ds : List D) (P : D3 → Prop) (EE : Exn → Prop),
  vs.length = n ∧ Ok Mb Mb B H ∧ IsL K Mb B H ds vs ∧ den ds P EE ∧ (∀ r v H', P r → Go Mb Mb B H H' → Is3 K Mb B H H' r v → Q v H') ∧ (∀ x H', EE x → Go Mb Mb B H H' → ∀ C, mg x = some (.ref C) → E (.ref C) none H')
section
variable {P : Program} {w : World} {K : PySem.W.Frag} {mg : Str → Option Value} {base : Heap}
theorem def_ok3 {x qual : Str} {st : Stmt} {f : Addr} {fd : FuncData} {N ps : List Str} {k : Nat} {den : List D → W D3} (F : Fun K x qual st f fd) (S : FnScope N ps (defScope st)) (hm : mg x = some (.ref f)) (hb : Binds K fd ps [])
    (body : ∀ cdv A outer s H E, Cd (cx P w K mg base N qual st f cdv A outer s H E) E k → ∀ ds, ds.length = ps.length → S3 (cx P w K mg base N qual st f cdv A outer s H E) E (defBody st) (ds.map SV.d ++ List.replicate (N.length - ds.length) SV.no) (den ds)) :
    DefD P w K mg base (k + 1) x ps (Sp3 K mg ps.length den) := by
  refine ⟨f, fd, fun_okN F S (fun vs H Q E h => ?_) (fun cdv A outer s H vs Q E hr h => ?_), hm, F.kp, hb⟩
  · obtain ⟨Mb, B, ds, P, EE, e, _⟩ := h
    exact e
  · obtain ⟨Mb, B, ds, P', EE, e, o, il, p, q, ee⟩ := h
    refine ⟨_, pss_w, ?_⟩
    have C := cd_of (P := P) (w := w) (K := K) (mg := mg) (base := base) (outer := outer) (H := H) (E := E) S.nd hr
    exact body cdv A outer s H E C ds (by rw [← il.len, e]) Mb B H Mb _ H P' EE _ ⟨.refl, fun _ m => .inl m⟩ o (startRp il) p (fun d v H' pd sb o' z => q d v H' pd ⟨sb, o'⟩ z) fun x H' ex sb o' => ee x H' ex ⟨sb, o'⟩
def tup3 (r : D3) : D := .tup [.lst r.1, .lst r.2.1, r.2.2]
theorem Is3.is {M B : Addr → Prop} {Hb H : Hp} {r : D3} {v : V} (h : Is3 K M B Hb H r v) : Is K M B H (tup3 r) v := by
  obtain ⟨t, p, q, va, vb, vc, e, s, _, _, n1, n2, l1, l2, _, _, i1, i2, i3⟩ := h
  exact ⟨t, _, e, s, .ref p, _, rfl, ⟨p, va, rfl, n1, l1, i1⟩, .ref q, _, rfl, ⟨q, vb, rfl, n2, l2, i2⟩, vc, _, rfl, i3, rfl⟩
theorem DefD.plain3 {k : Nat} {x : Str} {ps : List Str} {n : Nat} {den : List D → W D3} (h : DefD P w K mg base k x ps (Sp3 K mg n den)) : DefD P w K mg base k x ps (SpD K mg n fun ds => do let r ← den ds; pure (tup3 r)) := by
  obtain ⟨f, fd, F, r⟩ := h.ex
  refine ⟨f, fd, F.imp fun vs H Q E hh => ?_, r⟩
  obtain ⟨Mb, B, ds, P', EE, e, o, il, p, q, ee⟩ := hh
  exact ⟨Mb, B, ds, fun r => P' (tup3 r), EE, e, o, il, p, fun r v H' pd g i => q _ v H' pd g i.is, ee⟩
end
section
variable {X : Cx} {E : XK} {ρ : List SV} {pos pos2 : Pos} {k j : Nat}
/-- f(..)[0], f(..)[1], new lists -/
def fst3 (n : Int) (r : D3) : W (List D) := if n = 0 then pure r.1 else if n = 1 then pure r.2.1 else stuck
theorem ef_call3 {x : Str} {ps : List Str} {den : List D → W D3} {p p2 : Pos} {n : Int} {jj : Nat} {e : Expr} {es : List Expr} {ma : W (List D)} (F : DefD X.prog X.w X.K X.mg X.base k x ps (Sp3 X.K X.mg ps.length den)) (G : Cg X E j) (hk : k ≤ j) (ha : EA X E (e :: es) ρ ma)
    (hn : (e :: es).length = ps.length := by rfl) (hg : Gl X x := by rfl) (hdb : (x == ("__debug__" : Str)) = false := by decide) (he : starEach (e :: es) X.env = (false, eval e X.env) :: starEach es X.env := by rfl) (hpl : (backTo pos (starEach es X.env)).any (·.1) = false := by rfl) (hs : PlainIx (.Constant (.int n) jj p2) := by exact fun _ _ => rfl) :
    EF X E (.Subscript (.Call (.Name x p) (e :: es) [] pos) (.Constant (.int n) jj p2) pos2) ρ (do let ds ← ma; let r ← den ds; fst3 n r) := by
  intro Mb M B σ H P EE Q o rp pm q ee
  obtain ⟨f, fd, Fn, hm, hkp, hb⟩ := F.ex
  refine of_pe (pe_ix ix_tup (pe_call (Fn.mono hk) G.room hg hm hkp hb .nil G.pass pa_w hdb he hpl) pe_int hs) ?_
  refine ha Mb M B σ H (fun ds => (do let r ← den ds; fst3 n r : W (List D)) P EE) EE _ o rp pm (fun ds vs H1 pd g1 il nl => ?_) ee
  refine ⟨M, B, ds, fun r => (fst3 n r : W (List D)) P EE, EE, by rw [List.append_nil, nl, hn], g1.ok.base, by rw [List.append_nil]; exact il, pd, fun r v H2 p2 g2 i2 => ?_, fun x H2 p2 g2 => ee x H2 p2 (g1.trans (Go.base g1.ok g2))⟩
  have g12 := g1.trans (Go.base g1.ok g2)
  obtain ⟨t, p, q', va, vb, vc, rfl, s, m1, m2, n1, n2, l1, l2, f1, f2, i1, i2, i3⟩ := i2
  have p2' : (if n = 0 then pure r.1 else if n = 1 then pure r.2.1 else stuck : W (List D)) P EE := p2
  by_cases n0 : n = 0
  · rw [if_pos n0] at p2'
    subst n0
    exact ⟨t, _, 0, .ref p, rfl, rfl, s.sqT, by rfl, q r.1 p va H2 p2' g12 (g1.free o m1) l1 (i1.flat f1)⟩
  · rw [if_neg n0] at p2'
    by_cases n1 : n = 1
    · rw [if_pos n1] at p2'
      subst n1
      exact ⟨t, _, 1, .ref q', rfl, rfl, s.sqT, by rfl, q r.2.1 q' vb H2 p2' g12 (g1.free o m2) l2 (i2.flat f2)⟩
    · rw [if_neg n1] at p2'
      exact False.elim p2'
end
end DG

/-! ## DG13 -/
set_option Elab.async false
set_option linter.all false
set_option maxRecDepth 100000
set_option maxHeartbeats 4000000
namespace DG
open PySem PySem.Spec PyProof.Rows L2

/-! ### what the top has written -/
/-- the def x of the module, with parameters ps -/
structure Pk (K : PySem.W.Frag) (mg : Str → Option Value) (x : Str) (st : Stmt) (ps : List Str) : Prop where
  ex : ∃ f fd, Fun K x x st f fd ∧ mg x = some (.ref f) ∧ Binds K fd ps []
theorem pk_of {K : PySem.W.Frag} {mg : Str → Option Value} {h : Heap} {x : Str} {st : Stmt} {ps : List Str} {f : Addr} {oc : Value} {od an : Option Addr} {osl : Array (Option Value)} {kV doc pm cdv ct : Value} (X : K.In h) (G : h.Ns mainGlobals mg)
    (hb : ∀ (kV doc pm : Value) (an : Option Addr) (cdv ct : Value) (us : List Value), us.length = ps.length → bindArgs (PySem.W.fnOf x x (defArgs st) (defBody st) (defScope st) .none kV doc pm an cdv ct) ⟨us, []⟩ = pure (ps.zip us))
    (a : PySem.W.nsIn K mainGlobals x = some (some (.ref f))) (l : K.lookup f = some ⟨oc, od, .func (PySem.W.fnOf x x (defArgs st) (defBody st) (defScope st) .none kV doc pm an cdv ct), osl⟩) (c : PySem.W.codeIn K cdv x = true) (k : PySem.W.keepIn K (.ref f) = true) : Pk K mg x st ps :=
  have F := fun_mk (st := st) l c k
  ⟨f, _, F, PySem.W.mg_of X G a, F.binds hb⟩
section
variable {P : Program} {w : World} {K : PySem.W.Frag} {mg : Str → Option Value} {base : Heap}
theorem def_okP {x : Str} {st : Stmt} {N ps : List Str} {k : Nat} {den : List D → W D} (F : Pk K mg x st ps) (S : FnScope N ps (defScope st))
    (body : ∀ f cdv A outer s H E, Cd (cx P w K mg base N x st f cdv A outer s H E) E k → ∀ ds, ds.length = ps.length → SR (cx P w K mg base N x st f cdv A outer s H E) E true (defBody st) (ds.map SV.d ++ List.replicate (N.length - ds.length) SV.no) (den ds)) :
    DefD P w K mg base (k + 1) x ps (SpD K mg ps.length den) := by
  obtain ⟨f, fd, F, hm, hb⟩ := F.ex
  exact def_ok F S hm hb (body f)
theorem def_okFP {x : Str} {st : Stmt} {N ps : List Str} {k : Nat} {den : List D → W (List D)} (F : Pk K mg x st ps) (S : FnScope N ps (defScope st))
    (body : ∀ f cdv A outer s H E, Cd (cx P w K mg base N x st f cdv A outer s H E) E k → ∀ ds, ds.length = ps.length → SF (cx P w K mg base N x st f cdv A outer s H E) E (defBody st) (ds.map SV.d ++ List.replicate (N.length - ds.length) SV.no) (den ds)) :
    DefD P w K mg base (k + 1) x ps (SpF K mg ps.length den) := by
  obtain ⟨f, fd, F, hm, hb⟩ := F.ex
  exact def_okF F S hm hb (body f)
theorem def_ok3P {x : Str} {st : Stmt} {N ps : List Str} {k : Nat} {den : List D → W D3} (F : Pk K mg x st ps) (S : FnScope N ps (defScope st))
    (body : ∀ f cdv A outer s H E, Cd (cx P w K mg base N x st f cdv A outer s H E) E k → ∀ ds, ds.length = ps.length → S3 (cx P w K mg base N x st f cdv A outer s H E) E (defBody st) (ds.map SV.d ++ List.replicate (N.length - ds.length) SV.no) (den ds)) :
    DefD P w K mg base (k + 1) x ps (Sp3 K mg ps.length den) := by
  obtain ⟨f, fd, F, hm, hb⟩ := F.ex
  exact def_ok3 F S hm hb (body f)
/-- a promise exchanged for a better told one -/
theorem DefD.better {k : Nat} {x : Str} {ps : List Str} {n : Nat} {den den' : List D → W D} (h : DefD P w K mg base k x ps (SpD K mg n den)) (hd : ∀ ds P E, den' ds P E → den ds P E) : DefD P w K mg base k x ps (SpD K mg n den') := by
  obtain ⟨f, fd, F, r⟩ := h.ex
  refine ⟨f, fd, F.imp fun vs H Q E hh => ?_, r⟩
  obtain ⟨Mb, B, ds, P', EE, e, o, il, p, q, ee⟩ := hh
  exact ⟨Mb, B, ds, P', EE, e, o, il, hd _ _ _ p, q, ee⟩
theorem DefD.betterF {k : Nat} {x : Str} {ps : List Str} {n : Nat} {den den' : List D → W (List D)} (h : DefD P w K mg base k x ps (SpF K mg n den)) (hd : ∀ ds P E, den' ds P E → den ds P E) : DefD P w K mg base k x ps (SpF K mg n den') := by
  obtain ⟨f, fd, F, r⟩ := h.ex
  refine ⟨f, fd, F.imp fun vs H Q E hh => ?_, r⟩
  obtain ⟨Mb, B, ds, P', EE, e, o, il, p, q, ee⟩ := hh
  exact ⟨Mb, B, ds, P', EE, e, o, il, hd _ _ _ p, q, ee⟩
theorem DefD.better3 {k : Nat} {x : Str} {ps : List Str} {n : Nat} {den den' : List D → W D3} (h : DefD P w K mg base k x ps (Sp3 K mg n den)) (hd : ∀ ds P E, den' ds P E → den ds P E) : DefD P w K mg base k x ps (Sp3 K mg n den') := by
  obtain ⟨f, fd, F, r⟩ := h.ex
  refine ⟨f, fd, F.imp fun vs H Q E hh => ?_, r⟩
  obtain ⟨Mb, B, ds, P', EE, e, o, il, p, q, ee⟩ := hh
  exact ⟨Mb, B, ds, P', EE, e, o, il, hd _ _ _ p, q, ee⟩

/-! ### the law -/
def bagD (ds : List Int) : D := .lst [.lst (ds.map D.int), .int 0]
def spLaw (K : PySem.W.Frag) : Sp := fun vs H Q _ => ∃ ns v, vs = [v] ∧ Is K (fun _ => False) (fun _ => False) H (.scr ns) v ∧ (∀ z ∈ ns, Builtin.Int.intBits z ≤ 1048576) ∧ ∀ H', Q (.bl true) H'
theorem bags_is {M B : Addr → Prop} {H : Hp} : ∀ {bss : List (List Int)} {vs : List V}, IsL K M B H (bss.map bagD) vs → ∀ v ∈ vs, ∃ a q, ∃ ds ∈ bss, v = .ref a ∧ H a = some (.lst [.ref q, .int 0]) ∧ H q = some (.lst (ds.map V.int))
  | [], _, h, v, hv => by
    have e : _ = ([] : List V) := h
    rw [e] at hv
    cases hv
  | bs :: r, _, ⟨w, t, e, h1, h2⟩, v, hv => by
    rw [e] at hv
    rcases List.mem_cons.mp hv with z | hv
    · rw [z]
      obtain ⟨a, xs, e1, _, l, x1, r1, e2, ⟨q, ys, e3, _, l2, il⟩, x2, r2, e4, i2, e5⟩ := h1
      refine ⟨a, q, bs, List.mem_cons_self, e1, ?_, ?_⟩
      · have e5' : r2 = [] := e5
        have i2' : x2 = .int 0 := i2
        rw [l, e2, e3, e4, e5', i2']
      · rw [l2, il.ints]
    · obtain ⟨a, q, ds, m, z⟩ := bags_is h2 v hv
      exact ⟨a, q, ds, List.mem_cons_of_mem _ m, z⟩
theorem bagsL {B : Addr → Prop} {H : Hp} {M : Addr → Prop} : ∀ {vs : List V} {n : Nat}, vs.length = n → (∀ v ∈ vs, ∃ a, v = .ref a ∧ B a) → IsL K M B H (List.replicate n D.bag) vs
  | [], _, e, _ => by rw [← e]; rfl
  | v :: vs, _, e, h => by
    rw [← e]
    obtain ⟨a, e1, b⟩ := h v List.mem_cons_self
    exact ⟨v, vs, rfl, ⟨a, e1, b⟩, bagsL rfl fun v hv => h v (List.mem_cons_of_mem _ hv)⟩
def bagPat : D → W Unit
  | .bag => pure ()
  | _ => stuck
theorem gx_bag {X : Cx} {tg : Expr} {is : List Nat} {ρ : List SV} {st : D → List SV} (h : GX X tg is ρ pure st) : GX X tg is ρ bagPat fun _ : Unit => st .bag := by
  intro Mb M B σ H d v P EE Q o r iv p q
  cases d with
  | bag =>
    refine h Mb M B σ H .bag v (fun d => d = .bag) EE Q o r iv rfl fun t σ' pt sb rt => ?_
    have pt' : t = .bag := pt
    subst pt'
    exact q () σ' p sb rt
  | _ => exact False.elim p
/-- what a law's turn may come to: it goes on, or True is handed back -/
def goodO : Out Unit → Prop
  | .nx _ => True
  | .rt d => d = .bl true
/-- behind what is iterated: the loop -/
theorem loop_core {X : Cx} {E : XK} {S T : Type} {Mb M B : Addr → Prop} {Hb H1 : Hp} {σ : L2.St} {tg : Expr} {body : List Stmt} {ds : List D} {J : It} {mk : S → List SV} {s0 : S} {is : List Nat} {pat : D → W T} {st : S → T → List SV} {f : T → S → W (Out S)} {P : Out S → Prop} {EE : Exn → Prop} {D : Ends}
    (wk : Walk X.K M B H1 ds J) (b1 : Bs Mb Hb M B H1) (o1 : Ok Mb M B H1) (r1 : Rp X.K Mb M B σ H1 (mk s0)) (hg : ∀ s, GX X tg is (mk s) pat (st s)) (hb : ∀ s t, SX X E body (st s t) mk (f t s))
    (pd : forX ds s0 (fun d s => do let t ← pat d; f t s) P EE) (en : EndN X Mb B Hb mk (fun s => P (.nx s)) D.nx) (er : EndR X Mb B Hb (fun d => P (.rt d)) D.rt) (ee : EndE X E Mb B Hb EE) :
    ∃ W : Nat → Nat → L2.St → Hp → Prop, (∃ m, W 0 m σ H1) ∧ ∀ i m σ H, W i m σ H →
      (J.stop i H ∧ D.nx σ H) ∨ (J.go i H ∧ ∃ N : L2.St → Hp → Prop, (∀ σ' H', N σ' H' → ∃ m', m' < m ∧ W (i + 1) m' σ' H') ∧ ∀ v H', J.yld i H v H' → wG X tg v σ H' fun σ2 H2 => wSs X body { D with nx := N, ct := N, bk := D.nx } σ2 H2) := by
  have bl := b1.loop o1
  refine ⟨fun i m σ' H' => m = ds.length - i ∧ i ≤ ds.length ∧ ∃ s M', Bs Mb (baseL Hb M H1) M' B H' ∧ Ok Mb M' B H' ∧ Rp X.K Mb M' B σ' H' (mk s) ∧ forX (ds.drop i) s (fun d s => do let t ← pat d; f t s) P EE,
    ⟨_, rfl, Nat.zero_le _, s0, M, bl, o1, r1, pd⟩, fun i m σ' H' ⟨em, hle, s, M', b2, o2, r2, pf⟩ => ?_⟩
  have kp : Kept M M' H1 H' := b2.kept o1
  by_cases hlt : i < ds.length
  · refine .inr ⟨wk.go Mb M' H' i o2 kp hlt, fun σ2 H2 => ∃ s M', Bs Mb (baseL Hb M H1) M' B H2 ∧ Ok Mb M' B H2 ∧ Rp X.K Mb M' B σ2 H2 (mk s) ∧ forX (ds.drop (i + 1)) s (fun d s => do let t ← pat d; f t s) P EE, fun σ2 H2 hh => ⟨ds.length - (i + 1), by omega, rfl, hlt, hh⟩, fun x H3 y => ?_⟩
    have hd : ds[i]? = some ds[i] := List.getElem?_eq_getElem hlt
    obtain ⟨g3, ix⟩ := wk.yl Mb M' H' i _ x H3 o2 kp hd y
    rw [List.drop_eq_getElem_cons hlt] at pf
    have pf' : (pat ds[i]) (fun t => f t s (fun x => out2W (fun s' => forX (ds.drop (i + 1)) s' (fun d s => do let t ← pat d; f t s)) x P EE) EE) EE := pf
    refine hg s Mb M' B σ' H3 ds[i] x _ EE _ g3.ok (r2.go o2 g3) ix pf' fun t σ4 pt _ rt => ?_
    exact hb s t Mb B (baseL Hb M H1) M' σ4 H3 _ EE _ (b2.go g3) g3.ok rt pt (fun s5 M5 σ5 H5 p5 b5 o5 r5 => ⟨s5, M5, b5, o5, r5, p5⟩) (fun d v H5 p5 sb o5 iv => er d v H5 p5 (Ext.unloop b1 o1 sb) o5 iv) fun x H5 e5 sb o5 => ee x H5 e5 (Ext.unloop b1 o1 sb) o5
  · have ei : i = ds.length := by omega
    rw [List.drop_of_length_le (by omega)] at pf
    exact .inl ⟨wk.st Mb M' H' i o2 kp (by omega), en s M' σ' H' pf (Bs.unloop b1 o1 b2) o2 r2⟩
theorem law_body {x : Str} {st : Stmt} {f : Addr} {N : List Str} {k jj ib : Nat} {p1 p2 p3 p4 p5 p6 : Pos} {lim : Int} {body rest : List Stmt} {denB : List D → W D} {fB : List Int → W (Out Unit)} {fR : List Int → W D}
    {cdv : Value} {A : Around} {outer : List Env} {s : Shared} {H : Hp} {E : XK} {vs : List V} {Q : VK} (C : Cd (cx P w K mg base N x st f cdv A outer s H E) E k) (h : spLaw K vs H Q E) (hst : defBody st = .For (.Name "bag" p1) (.Call (.Name "_law_bags" p2) [.Name "script" p3, .Constant (.int lim) jj p4] [] p5) body [] p6 :: rest) (hN : N.length = (N.length - 1) + 1 := by rfl) (hib : N[ib]? = some "bag" := by rfl)
    (FB : DefD P w K mg base k "_law_bags" ["script", "limit"] (SpD K mg 2 denB)) (hB : ∀ ns : List Int, (∀ z ∈ ns, Builtin.Int.intBits z ≤ 1048576) → denB [.scr ns, .int lim] (fun d => ∃ bss : List (List Int), d = .lst (bss.map bagD) ∧ ∀ ds ∈ bss, drawsOk ds) fun _ => False)
    (hib0 : 0 < ib := by decide) (hibN : ib < N.length := by decide)
    (walkB : ∀ ns, SX (cx P w K mg base N x st f cdv A outer s H E) E body ((.d (.scr ns) :: List.replicate (N.length - 1) .no).set ib (.d .bag)) (fun _ : Unit => .d (.scr ns) :: List.replicate (N.length - 1) .no) (fB ns))
    (hfB : ∀ ns (Q : Out Unit → Prop), (∀ o, goodO o → Q o) → (fB ns) Q fun _ => False)
    (walkR : ∀ ns, SR (cx P w K mg base N x st f cdv A outer s H E) E false rest (.d (.scr ns) :: List.replicate (N.length - 1) .no) (fR ns))
    (hfR : ∀ ns, (fR ns) (fun d => d = .bl true) fun _ => False)
    (gx : ∀ ns, GX (cx P w K mg base N x st f cdv A outer s H E) (.Name "bag" p1) [ib] (.d (.scr ns) :: List.replicate (N.length - 1) .no) pure fun d => (.d (.scr ns) :: List.replicate (N.length - 1) .no).set ib (.d d))
    (ea : ∀ ns, EX (cx P w K mg base N x st f cdv A outer s H E) E (.Call (.Name "_law_bags" p2) [.Name "script" p3, .Constant (.int lim) jj p4] [] p5) (.d (.scr ns) :: List.replicate (N.length - 1) .no) (denB [.scr ns, .int lim]))
    (hs : ∀ x', foldedSetIterable (.Call (.Name "_law_bags" p2) [.Name "script" p3, .Constant (.int lim) jj p4] [] p5) (cx P w K mg base N x st f cdv A outer s H E).env x' = pure x' := by intros; rfl) :
    ∃ t, PSs (cx P w K mg base N x st f cdv A outer s H E) (defBody st) t ∧ t { nx := fun _ H' => Q .non H', rt := Q } (L2.start N vs) H := by
  obtain ⟨ns, v, e, isc, hbits, hQ⟩ := h
  refine ⟨_, pss_w, ?_⟩
  let X := cx P w K mg base N x st f cdv A outer s H E
  let no : Addr → Prop := fun _ => False
  let ρ : List SV := .d (.scr ns) :: List.replicate (N.length - 1) .no
  have o0 : Ok no no no H := ⟨fun _ h => h, fun _ h => h, fun _ h => h.elim, fun _ h => h.elim⟩
  have il : IsL K no no H [.scr ns] vs := by rw [e]; exact .one isc
  have r0 : Rp K no no no (L2.start N vs) H ρ := startRp il
  have pg : PG X (.Name "bag" p1) (wG X (.Name "bag" p1)) := ⟨fun pins s σ H v u Q I r h => h.run pins s u I r⟩
  have pi : PI X (.Name "bag" p1) (.Call (.Name "_law_bags" p2) [.Name "script" p3, .Constant (.int lim) jj p4] [] p5) _ := pi_list pe_w
  rw [hst]
  refine of_pss (pss_cons (ps_for C.own C.calm pi pg pss_w hs) pss_w) ?_
  refine ea ns no no no _ H _ (fun _ => False) _ o0 r0 (hB ns hbits) (fun d u H1 pd g1 iv => ?_) fun x H' z => z.elim
  obtain ⟨bss, rfl, hbs⟩ := pd
  obtain ⟨p, ws, e1, _, lp, ilb⟩ := isLs iv
  have hb := bags_is ilb
  -- the bags
  let B : Addr → Prop := fun a => .ref a ∈ ws
  have ok : Ok B B B H1 := by
    refine ⟨fun _ h => h, fun _ h => h, fun a m => ?_, fun a m => ?_⟩
    · obtain ⟨a', q, ds, _, e2, l1, _⟩ := hb _ m
      cases e2
      exact ⟨_, l1, not_imm_lst⟩
    · obtain ⟨a', q, ds, md, e2, l1, l2⟩ := hb _ m
      cases e2
      refine ⟨q, 0, ds, l1, fun mq => ?_, l2, (hbs ds md).1, (hbs ds md).2, Int.le_refl 0⟩
      obtain ⟨a2, q2, ds2, _, e3, l3, _⟩ := hb _ mq
      cases e3
      rw [l2] at l3
      have l4 : ds.map V.int = [.ref q2, .int 0] := by injection l3 with l3; injection l3
      cases ds with
      | nil => cases l4
      | cons d ds => cases l4
  have np : ¬ B p := fun m => by
    obtain ⟨a2, q2, ds2, _, e3, l3, _⟩ := hb _ m
    cases e3
    rw [lp] at l3
    have l4 : ws = [.ref q2, .int 0] := by injection l3 with l3; injection l3
    have : V.int 0 ∈ ws := by rw [l4]; simp
    obtain ⟨a4, _, _, _, e4, _⟩ := hb _ this
    cases e4
  have ilB : IsL K B B H1 (List.replicate ws.length D.bag) ws := bagsL rfl fun v hv => by
    obtain ⟨a, q, ds, _, e2, _⟩ := hb v hv
    exact ⟨a, e2, by rw [e2] at hv; exact hv⟩
  have r1 : Rp K B B B (L2.start N vs) H1 ρ := by
    have iscr := isc
    obtain ⟨a, e3, sc⟩ := isc
    refine ⟨r0.len, fun i s es => ?_, fun i j s t q ei ej si sj _ _ => ?_⟩
    · cases i with
      | zero =>
        cases es
        obtain ⟨o', q1, v', q2, i2⟩ := r0.sl 0 _ rfl
        refine ⟨o', q1, v', q2, ?_⟩
        have k1 : Kept no no H H1 := g1.kept o0
        obtain ⟨a', e4, sc'⟩ := Is.keep k1 (fun _ b => b) _ _ i2
        exact ⟨a', e4, sc'⟩
      | succ i =>
        have es' : (List.replicate (N.length - 1) SV.no)[i]? = some s := es
        have := List.mem_of_getElem? es'
        rw [List.mem_replicate] at this
        obtain ⟨_, rfl⟩ := this
        obtain ⟨o', q1, _⟩ := r0.sl (i + 1) .no es
        exact ⟨o', q1, trivial⟩
    · exfalso
      have hh : ∀ (i : Nat) (s : SV), ρ[i]? = some s → s.isOwn = true → False := fun i s e h => by
        rcases List.mem_cons.mp (List.mem_of_getElem? e) with z | z
        · rw [z] at h; cases h
        · rw [List.mem_replicate] at z
          rw [z.2] at h
          cases h
      exact hh i s ei si
  have wk := walk_list (K := K) (M := B) (B := B) (H := H1) np lp ilB
  refine ⟨p, e1, ⟨ws, .of lp⟩, ?_⟩
  have b1 : Bs B (fun _ => none) B B H1 := ⟨⟨fun _ _ z => (by cases z), fun _ _ _ _ z => (by cases z)⟩, fun _ m => .inl m⟩
  have hr0 : (SV.d (.scr ns) :: List.replicate (N.length - 1) SV.no) = ρ := rfl
  refine loop_core (E := E) (EE := fun _ => False) (P := goodO) (s0 := ()) (mk := fun _ : Unit => ρ) (is := [ib]) (pat := bagPat) (st := fun _ _ => ρ.set ib (.d .bag)) (f := fun _ _ => fB ns) wk b1 ok r1 (fun _ => gx_bag (gx ns)) (fun _ _ => walkB ns) ?_ ?_ ?_ ?_
  · -- the loop
    have all : ∀ (n : Nat) (u : Unit), (forX (List.replicate n D.bag) u fun d s => do let t ← bagPat d; fB ns : W (Out Unit)) goodO fun _ => False := by
      intro n
      induction n with
      | zero => intro u; exact True.intro
      | succ n ih =>
        intro u
        show (fB ns) (fun o => (out2W (fun s' => forX (List.replicate n D.bag) s' fun d s => do let t ← bagPat d; fB ns) o : W (Out Unit)) _ _) _
        refine hfB ns _ fun o ho => ?_
        cases o with
        | nx s => exact ih s
        | rt d => exact ho
    exact all ws.length ()
  · intro u M' σ' H' _ b2 o2 r2
    refine walkR ns B B (fun _ => none) M' σ' H' _ (fun _ => False) _ b2 o2 r2 (hfR ns) (fun d v H2 pd _ _ iv => ?_) (fun z => nomatch z) fun _ _ z => z.elim
    subst pd
    have ev : v = .bl true := iv
    subst ev
    exact hQ H2
  · intro d v H2 pd _ _ iv
    have pd' : d = .bl true := pd
    subst pd'
    have ev : v = .bl true := iv
    subst ev
    exact hQ H2
  · exact fun _ _ z => z.elim
theorem law_ok {x : Str} {st : Stmt} {f : Addr} {fd : FuncData} {N : List Str} {k jj ib : Nat} {p1 p2 p3 p4 p5 p6 : Pos} {lim : Int} {body rest : List Stmt} {denB : List D → W D} {fB : List Int → W (Out Unit)} {fR : List Int → W D}
    (F : Fun K x x st f fd) (S : FnScope N ["script"] (defScope st)) (hst : defBody st = .For (.Name "bag" p1) (.Call (.Name "_law_bags" p2) [.Name "script" p3, .Constant (.int lim) jj p4] [] p5) body [] p6 :: rest) (hN : N.length = (N.length - 1) + 1 := by rfl) (hib : N[ib]? = some "bag" := by rfl)
    (FB : DefD P w K mg base k "_law_bags" ["script", "limit"] (SpD K mg 2 denB)) (hB : ∀ ns : List Int, (∀ z ∈ ns, Builtin.Int.intBits z ≤ 1048576) → denB [.scr ns, .int lim] (fun d => ∃ bss : List (List Int), d = .lst (bss.map bagD) ∧ ∀ ds ∈ bss, drawsOk ds) fun _ => False)
    (hib0 : 0 < ib := by decide) (hibN : ib < N.length := by decide)
    (walkB : ∀ cdv A outer s H E, Cd (cx P w K mg base N x st f cdv A outer s H E) E k → ∀ ns, SX (cx P w K mg base N x st f cdv A outer s H E) E body ((.d (.scr ns) :: List.replicate (N.length - 1) .no).set ib (.d .bag)) (fun _ : Unit => .d (.scr ns) :: List.replicate (N.length - 1) .no) (fB ns))
    (hfB : ∀ ns (Q : Out Unit → Prop), (∀ o, goodO o → Q o) → (fB ns) Q fun _ => False)
    (walkR : ∀ cdv A outer s H E, Cd (cx P w K mg base N x st f cdv A outer s H E) E k → ∀ ns, SR (cx P w K mg base N x st f cdv A outer s H E) E false rest (.d (.scr ns) :: List.replicate (N.length - 1) .no) (fR ns))
    (hfR : ∀ ns, (fR ns) (fun d => d = .bl true) fun _ => False)
    (gx : ∀ cdv A outer s H E ns, GX (cx P w K mg base N x st f cdv A outer s H E) (.Name "bag" p1) [ib] (.d (.scr ns) :: List.replicate (N.length - 1) .no) pure fun d => (.d (.scr ns) :: List.replicate (N.length - 1) .no).set ib (.d d))
    (ea : ∀ cdv A outer s H E, Cd (cx P w K mg base N x st f cdv A outer s H E) E k → ∀ ns, EX (cx P w K mg base N x st f cdv A outer s H E) E (.Call (.Name "_law_bags" p2) [.Name "script" p3, .Constant (.int lim) jj p4] [] p5) (.d (.scr ns) :: List.replicate (N.length - 1) .no) (denB [.scr ns, .int lim]))
    (hs : ∀ cdv A outer s H E x', foldedSetIterable (.Call (.Name "_law_bags" p2) [.Name "script" p3, .Constant (.int lim) jj p4] [] p5) (cx P w K mg base N x st f cdv A outer s H E).env x' = pure x' := by intros; rfl) :
    FnOk P w K mg base (L2N.CX P w) (k + 1) f fd ["script"] (spLaw K) := by
  refine fun_okN F S (fun vs H Q E h => by obtain ⟨ns, v, e, _⟩ := h; rw [e]; rfl) fun cdv A outer s H vs Q E hr h => ?_
  have C := cd_of (P := P) (w := w) (K := K) (mg := mg) (base := base) (outer := outer) (H := H) (E := E) S.nd hr
  exact law_body C h hst hN hib FB hB hib0 hibN (walkB cdv A outer s H E C) hfB (walkR cdv A outer s H E C) hfR (gx cdv A outer s H E) (ea cdv A outer s H E C) (hs cdv A outer s H E)
end
end DG

/-! ## DG14 -/
set_option Elab.async false
set_option linter.all false
set_option maxRecDepth 100000
set_option maxHeartbeats 4000000
namespace DG
open PySem PySem.Spec PyProof.Rows L2

/-! ### the end of a law -/
theorem scr_of {K : PySem.W.Frag} {H : Hp} {a : Addr} {ns : List Int} (o : Only H) (s : SqL K H a (ns.map V.int)) : Is K (fun _ => False) (fun _ => False) H (.scr ns) (.ref a) := by
  refine ⟨a, rfl, ?_⟩
  rcases s with (s | ⟨ob, s⟩) | s
  · rcases o a with n | ⟨ob, xs, e⟩
    · rw [n] at s; cases s
    · rw [e] at s; cases s
  · exact .inl ⟨ob, s⟩
  · exact .inr (.inr s)
/-- as the library's, and the values of loose names are told -/
theorem walk_ofX {l : PySem.W.OpenLaw} {n k : Nat} {q : Program} {loose : List Str} {XP : (Str → Option Value) → Heap → Prop} {YP : World → Heap → Prop} {d : DefRec} {K : Params → PySem.W.Frag}
    (hn : l.most = some n) (hn2 : n ≤ sizeLine) (hdf : d.params.defaults = []) (hr : Room k callerA) (hY : ∀ (w : World) (h : Heap), YP w h → (K w.params).In h)
    (F : ∀ (w : World) (mg : Str → Option Value) (fa : Addr) (h : Heap), (K w.params).In h → h.Ns mainGlobals mg → XP mg h → mg d.name = some (.ref fa) →
      ∃ fd : FuncData, (∀ (s : Shared) (u : Value), BindsTo s fd ⟨[u], []⟩ [("script", u)]) ∧ ∀ base : Heap, FnOk l.prog w (K w.params) mg base (L2N.CX l.prog w) k fa fd ["script"] (spLaw (K w.params))) :
    PySem.W.WalkO q loose XP YP l.row.toRowW d [] (fun f vs => PySem.call f vs) := by
  refine Att.attach_callB hn hdf fun w s₀ s₁ mg mb fa o pm cd doc a vs ns G Y ho hd hcd hmg hobj hints hlen hbits hg => ?_
  have KX := hY w _ Y
  obtain ⟨fd, hb, hF⟩ := F w mg fa _ KX G.T.g G.X hmg
  refine law_call KX G.T.g G.T.b G.T.builtins G.T.nolimit hg hobj hints (Nat.le_trans hlen hn2) hr (fun base _ _ => hF base) hb (fun H hO hS => ⟨ns, .ref a, rfl, scr_of hO hS, hbits, fun _ => rfl⟩) fun H e s' h => ?_
  obtain ⟨_, _, _, _, _, _, _, _, _, _, _, _, z⟩ := h
  exact z
/-- a loose whole number -/
theorem loose_int {p : Program} {lv : List (Str × PySem.W.WData)} {K : PySem.W.Frag} {mg : Str → Option Value} {h : Heap} {x : Str} {i : Int} (X : PySem.W.XL p lv mg h) (m : (x, PySem.W.WData.int i) ∈ lv) : GlobD K mg x (.int i) := by
  obtain ⟨v, e, r⟩ := X.2.val _ m
  cases r
  exact ⟨_, .int i, e, ⟨_, rfl⟩, rfl⟩
theorem glob_tup {K : PySem.W.Frag} {mg : Str → Option Value} {h : Heap} {x : Str} {a : Addr} {ds : List D} {vs : List V} {o : Obj} {its : Array Value} {n : Nat} (X : K.In h) (G : h.Ns mainGlobals mg) (e : PySem.W.nsIn K mainGlobals x = some (some (.ref a))) (k : KD K (.tup ds) (.ref a)) : GlobD K mg x (.tup ds) :=
  ⟨_, .ref a, PySem.W.mg_of X G e, rfl, k⟩
theorem glob_int {K : PySem.W.Frag} {mg : Str → Option Value} {h : Heap} {x : Str} {i : Int} {t : Nat} (X : K.In h) (G : h.Ns mainGlobals mg) (e : PySem.W.nsIn K mainGlobals x = some (some (.int i t))) : GlobD K mg x (.int i) := ⟨_, .int i, PySem.W.mg_of X G e, ⟨_, rfl⟩, rfl⟩
theorem glob_str {K : PySem.W.Frag} {mg : Str → Option Value} {h : Heap} {x : Str} {i : Str} {t : Nat} (X : K.In h) (G : h.Ns mainGlobals mg) (e : PySem.W.nsIn K mainGlobals x = some (some (.str i t))) : GlobD K mg x (.str i) := ⟨_, .str i, PySem.W.mg_of X G e, ⟨_, rfl⟩, rfl⟩
theorem kd_tup {K : PySem.W.Frag} {a : Addr} {ds : List D} {vs : List V} {its : Array Value} {n : Nat} {sl : Array (Option Value)} (l : K.lookup a = some ⟨.type "tuple", none, .seq its n, sl⟩) (hz : its.size ≤ 1000) (r : Vals vs its.toList) (h : IsL K (fun _ => False) (fun _ => False) (fun _ => none) ds vs) : KD K (.tup ds) (.ref a) :=
  ⟨a, vs, rfl, .inr ⟨_, its, n, l, rfl, rfl, rfl, Nat.le_trans hz (by rw [sizeLine_eq]; decide), r⟩, h⟩
/-- an own class of errors -/
theorem exc_of {K : PySem.W.Frag} {mg : Str → Option Value} {h : Heap} {x : Str} {C : Addr} (X : K.In h) (G : h.Ns mainGlobals mg) (a : PySem.W.nsIn K mainGlobals x = some (some (.ref C)))
    (e : PySem.W.excIn K C [.type "ValueError", .type "Exception", .type "BaseException", .type "object"] "ValueError.__new__" = true) (k : PySem.W.keepIn K (.ref C) = true) (b : PySem.W.subIn K (.ref C) (.type "BaseException") = some true) (t : PySem.W.typeIn K (.ref C) = some (.type "type")) : ExcC K mg x :=
  ⟨C, PySem.W.mg_of X G a, e, k, b, t⟩
end DG

/-! ## DG15 -/
set_option Elab.async false
set_option linter.all false
set_option maxRecDepth 100000
set_option maxHeartbeats 4000000
namespace DG
open PySem PySem.Spec PyProof.Rows L2
theorem passN {X : Cx} : Passes (L2N.CX X.prog X.w) X E0 := fun _ _ _ _ _ _ _ h => by
  obtain ⟨_, _, _, _, _, _, _, _, _, _, _, _, z⟩ := h
  exact z.elim
theorem cg_bk {X : Cx} {E : XK} {k : Nat} (G : Cg X E k) {scope : Scope} (s : Shared) (H : Hp) (C : Addr) (cl : List (Str × Addr)) (fp : List Addr) : Cg (Bk X scope s H C cl fp) E0 k := ⟨G.calm, G.nd, G.room, passN⟩
theorem boot_len : bootBuiltins "len" = some (.builtin "len") := by decide +kernel
theorem boot_int : bootBuiltins "int" = some (.type "int") := by decide +kernel
theorem boot_bool : bootBuiltins "bool" = some (.type "bool") := by decide +kernel
theorem boot_str : bootBuiltins "str" = some (.type "str") := by decide +kernel
theorem boot_tuple : bootBuiltins "tuple" = some (.type "tuple") := by decide +kernel
theorem boot_list : bootBuiltins "list" = some (.type "list") := by decide +kernel
theorem boot_all : bootBuiltins "all" = some (.builtin "all") := by decide +kernel
theorem boot_max : bootBuiltins "max" = some (.builtin "max") := by decide +kernel
theorem boot_min : bootBuiltins "min" = some (.builtin "min") := by decide +kernel
theorem boot_sorted : bootBuiltins "sorted" = some (.builtin "sorted") := by decide +kernel
theorem ea_bags {X : Cx} {E : XK} {k j jj : Nat} {p2 p3 p4 p5 : Pos} {lim : Int} {ns : List Int} {r : List SV} {den : List D → W D} (F : DefD X.prog X.w X.K X.mg X.base k "_law_bags" ["script", "limit"] (SpD X.K X.mg 2 den)) (G : Cg X E j) (hk : k ≤ j) (hN : X.N[0]? = some ("script" : Str) := by rfl)
    (hv : Vis X.env.scope "script" := by first | exact Or.inl rfl | exact Or.inr (Or.inl rfl) | exact Or.inr (Or.inr rfl)) (hg : Gl X "_law_bags" := by rfl)
    (he : starEach [.Name "script" p3, .Constant (.int lim) jj p4] X.env = (false, eval (.Name "script" p3) X.env) :: starEach [.Constant (.int lim) jj p4] X.env := by rfl) (he2 : starEach [.Constant (.int lim) jj p4] X.env = (false, eval (.Constant (.int lim) jj p4) X.env) :: starEach [] X.env := by rfl) (hpl : (backTo p5 (starEach [.Constant (.int lim) jj p4] X.env)).any (·.1) = false := by rfl) :
    EX X E (.Call (.Name "_law_bags" p2) [.Name "script" p3, .Constant (.int lim) jj p4] [] p5) (.d (.scr ns) :: r) (den [.scr ns, .int lim]) :=
  ex_call F G hk (ea_cons (ex_var 0 (h := rfl) hN hv) (ea_cons ex_int ea_nil he2) he) rfl hg (by decide) he hpl
/-- a def's scope, by one look -/
def fscC (N P : List Str) (sc : Scope) : Bool := sc.kind == .function && !sc.isCoroutine && !sc.isGenerator && decide N.Nodup && N.take P.length == P && P.all (fun x => sc.names.lookup x == some .local || sc.names.lookup x == some .cell) && sc.names.all fun y => y.2 != .free
theorem fsc {N P : List Str} {sc : Scope} (h : fscC N P sc = true) : FnScope N P sc := by
  unfold fscC at h
  simp only [Bool.and_eq_true, Bool.or_eq_true, List.all_eq_true, decide_eq_true_eq, beq_iff_eq, Bool.not_eq_true', bne_iff_ne, ne_eq] at h
  obtain ⟨⟨⟨⟨⟨⟨h1, h2⟩, h3⟩, h4⟩, h5⟩, h6⟩, h7⟩ := h
  exact ⟨h1, h2, h3, h4, h5, h6, h7⟩
section
variable {X : Cx} {E : XK} {ρ : List SV} {pos : Pos} {a b : Expr} {st : List Stmt}
theorem sr_stuck {b : Bool} : SR X E b st ρ stuck := fun _ _ _ _ _ _ _ _ _ _ _ _ p => False.elim p
theorem sf_stuck : SF X E st ρ stuck := fun _ _ _ _ _ _ _ _ _ _ _ _ p => False.elim p
theorem s3_stuck : S3 X E st ρ stuck := fun _ _ _ _ _ _ _ _ _ _ _ _ p => False.elim p
theorem s1_exprU {e : Expr} {m : W D} (he : EX X E e ρ m) (hs : swapsWith e none pos.line X.env = pure false := by rfl) : S1 X E (.Expr e pos) ρ (fun _ : Unit => ρ) (do let _ ← m; pure ()) := by
  intro Mb B Hb M σ H P EE D bs o r p en ee
  refine of_ps (ps_expr pe_w hs) ?_
  exact he Mb M B σ H (fun _ => P ()) EE _ o r p (fun d v H1 pd g1 iv => en () M σ H1 pd (bs.go g1) g1.ok (r.go o g1)) (ee.post bs)
theorem ef_ife {c : Expr} {mc : W Bool} {ma mb : W (List D)} (hc : ET X E c ρ mc) (ha : EF X E a ρ ma) (hb : EF X E b ρ mb) : EF X E (.IfExp c a b pos) ρ (do let t ← mc; if t then ma else mb) := by
  intro Mb M B σ H P EE Q o rp p q ee
  refine of_pe (pe_ifExp pt_w pe_w pe_w) ?_
  refine hc Mb M B σ H (fun t => (if t then ma else mb : W (List D)) P EE) EE _ o rp p (fun t H1 pt g1 => ?_) ee
  cases t with
  | true => exact ha Mb M B σ H1 P EE Q g1.ok (rp.go o g1) pt (q.go o g1) (ee.go g1)
  | false => exact hb Mb M B σ H1 P EE Q g1.ok (rp.go o g1) pt (q.go o g1) (ee.go g1)
/-- xs[::-1] -/
theorem ef_rev {m : W D} {k : Nat} {p1 p2 p3 : Pos} (ha : EX X E a ρ m) : EF X E (.Subscript a (.Slice none none (some (.UnaryOp .USub (.Constant (.int 1) k p1) p2)) p3) pos) ρ (do let x ← m; let ds ← lstD x; pure ds.reverse) := by
  intro Mb M B σ H P EE Q o rp p q ee
  refine of_pe (pe_revL pe_w) ?_
  refine ha Mb M B σ H (fun x => (do let ds ← lstD x; pure ds.reverse : W (List D)) P EE) EE _ o rp p (fun x vx H1 px g1 ix => ?_) ee
  cases x with
  | lst ds =>
    obtain ⟨c, vs, e1, n1, h1, i1⟩ := isLs ix
    exact ⟨c, vs, e1, .of h1, fun r n => (q.go o g1).new g1.ok px i1.rev n⟩
  | _ => exact False.elim px
theorem sf_raise {x t : Str} {j : Nat} {p1 p2 p3 : Pos} {rest : List Stmt} (hc : X.calm = true) (tk : L2N.Takes X (fun cls d _ H => E cls d H)) (h : ExcC X.K X.mg x) (hg : Gl X x := by rfl) (hdb : (x == ("__debug__" : Str)) = false := by decide) :
    SF X E (.Raise (some (.Call (.Name x p1) [.Constant (.str t) j p2] [] p3)) none pos :: rest) ρ (throwW x) := by
  intro Mb B Hb M σ H P EE D bs o r p er ee
  obtain ⟨C, gC, xC, kC, bC, tC⟩ := h.ex
  refine of_pss (pss_cons (L2N.ps_raise hc tk (L2N.pmk_own PySem.F.excBase_ValueError xC gC kC (raises_own bC tC) hg hdb)) pss_never) ?_
  exact ee x H p bs.hb o.down C gC
end
end DG

/-! ## DG17 -/
set_option Elab.async false
set_option linter.all false
set_option maxRecDepth 100000
set_option maxHeartbeats 4000000
namespace DG
open PySem PySem.Spec PyProof.Rows L2
/-! ### xs.count(v) -/
def countD (ds : List D) (y : D) : W D := need (y.flat = true ∧ ds.all D.flat = true) (pure (.int (ds.countP fun z => z.eqv y : Nat)))
def rCntV (K : PySem.W.Frag) : V → List V → Hp → VK → Prop := fun x xs H Q => ∃ (p : Addr) (vs : List V) (y : V), x = .ref p ∧ xs = [y] ∧ SqL K H p vs ∧ flatV y = true ∧ vs.all flatV = true ∧ Q (.int (vs.countP (fun z => eqV z y) : Nat)) H
theorem countP_eqU {x : V} : ∀ {xs : List V} {us : List Value}, Vals xs us → xs.all flatV = true → us.countP (eqU x) = xs.countP fun y => eqV y x
  | _, _, .nil, _ => rfl
  | _, _, .cons r rs, f => by
    rw [List.all_cons, Bool.and_eq_true] at f
    rw [List.countP_cons, List.countP_cons, countP_eqU rs f.2, eqU_of r f.1]
theorem vals_mem {xs : List V} {us : List Value} (r : Vals xs us) (f : xs.all flatV = true) {u : Value} (m : u ∈ us) : ∃ y, RelV y u ∧ flatV y = true := by
  induction r with
  | nil => cases m
  | cons h _ ih =>
    rw [List.all_cons, Bool.and_eq_true] at f
    rcases List.mem_cons.mp m with rfl | m
    · exact ⟨_, h, f.1⟩
    · exact ih f.2 m
theorem mt_cntV {X : Cx} : MtR X "list.count" (rCntV X.K) := by
  intro pins s σ H x xs v us Q I rx rxs h
  obtain ⟨p, vs, y, rfl, rfl, hs, fy, fv, q⟩ := h
  cases rx
  obtain ⟨u, rfl, ru⟩ := rxs.one
  obtain ⟨its, rv, ⟨⟨cls, dd, data, sl⟩, n, ho, hc, hdn, hd⟩, hlen⟩ := I.list hs
  simp only at hc hd
  subst hc hd
  refine call_meets PySem.F.slot_list_count ⟨_, ho, rfl⟩ PySem.F.entry_list_count (PySem.F.args_list_count_2 _ _)
    (SeqAt.list_countAt p its.toArray n dd sl u (eqU y)) ⟨ho, fun z hz => ?_, ?_⟩
  · obtain ⟨w, rw', fw⟩ := vals_mem rv fv (show z ∈ its by simpa using hz)
    rw [eqU_of rw' fw]
    exact eqAt_V rw' ru fw fy
  · have ec : its.toArray.toList.countP (eqU y) = vs.countP (fun z => eqV z y) := countP_eqU rv fv
    refine ⟨.int (vs.countP (fun z => eqV z y) : Nat), H, I.tok _, ⟨s.toks, ?_⟩, q⟩
    show Value.int ((its.toArray.toList.countP (eqU y) : Nat) : Int) s.toks = Value.int ((vs.countP (fun z => eqV z y) : Nat) : Int) s.toks
    rw [ec]
section
variable {X : Cx} {E : XK} {ρ : List SV} {K : PySem.W.Frag} {M B : Addr → Prop} {H : Hp}
theorem countP_is {x : D} {v : V} (i : Is K M B H x v) (fx : x.flat = true) : ∀ {ds : List D} {vs : List V}, IsL K M B H ds vs → ds.all D.flat = true → vs.countP (fun z => eqV z v) = ds.countP fun z => z.eqv x
  | [], _, h, _ => by rw [show _ = ([] : List V) from h]; rfl
  | d :: ds, _, ⟨w, r, e, h1, h2⟩, f => by
    rw [List.all_cons, Bool.and_eq_true] at f
    rw [e, List.countP_cons, List.countP_cons, countP_is i fx h2 f.2, flat_eqV h1 i f.1 fx]
theorem ex_count {o e : Expr} {mo me : W D} {apos cpos : Pos} (ho : EX X E o ρ mo) (he : EX X E e ρ me)
    (hbase : attributeBase o "count" X.env (eval o X.env) = eval o X.env := by rfl)
    (hfew : ((backTo cpos (starEach [e] X.env)).all (fun x => !x.1) && (backToKw cpos (keywordEach [] X.env)).all (fun x => x.1.isSome)
      && decide ([e].length + ([] : List Keyword).length + (if ([] : List Keyword).isEmpty then 0 else 1) < 30)) = true := by rfl)
    (hline : (apos.endLine == cpos.line) = true := by rfl) (hs : starEach [e] X.env = (false, eval e X.env) :: starEach [] X.env := by rfl) (hplain : (backTo cpos (starEach [] X.env)).any (·.1) = false := by rfl) :
    EX X E (.Call (.Attribute o "count" apos) [e] [] cpos) ρ (do let x ← mo; let ds ← lstD x; let y ← me; countD ds y) := by
  intro Mb M B σ H P EE Q ok rp pm q ee
  refine of_pe (pe_bm PySem.F.plainAttrs_list PySem.F.slot_list_count PySem.F.type_list_count mt_cntV pe_w (pa_cons pe_w pa_nil hs) hbase hfew hline hs hplain) ?_
  refine ho Mb M B σ H (fun x => ((do let ds ← lstD x; let y ← me; countD ds y) : W D) P EE) EE _ ok rp pm (fun x vx H1 px g1 ix => ?_) ee
  cases x with
  | lst ds =>
    obtain ⟨a, vs, e1, n1, s, il⟩ := isLs ix
    subst e1
    refine ⟨.inl ⟨rfl, vs, .of s⟩, ?_⟩
    refine he Mb M B σ H1 (fun y => countD ds y P EE) EE _ g1.ok (rp.go ok g1) px (fun y vy H2 py g2 iy => ?_) (ee.go g1)
    have il2 := IsL.keep (g2.kept g1.ok) (fun _ b => b) _ _ il
    have s2 := ((g2.kept g1.ok).ls a vs n1 s).2
    refine ⟨a, vs, vy, rfl, rfl, .of s2, flat_V iy py.1.1, flat_all il2 py.1.2, ?_⟩
    rw [countP_is iy py.1.1 il2 py.1.2]
    exact q _ _ H2 py.2 (g1.trans g2) rfl
  | _ => exact False.elim px
end

/-! ### an own list that is never written again: frozen -/
section
variable {K : PySem.W.Frag} {Mb M B : Addr → Prop} {Hb H : Hp} {σ : L2.St} {ρ ρ' : List SV}
def lessP (M : Addr → Prop) (p : Addr) : Addr → Prop := fun a => M a ∧ a ≠ p
theorem Ok.lessP (o : Ok Mb M B H) {p : Addr} (np : ¬ Mb p) : Ok Mb (DG.lessP M p) B H :=
  ⟨o.bm, fun a m => ⟨o.mm a m, fun e => np (e ▸ m)⟩, fun a m => o.tr a m.1, fun a b => by
    obtain ⟨q, c, ds, h1, h2, h3⟩ := o.bg a b
    exact ⟨q, c, ds, h1, fun z => h2 z.1, h3⟩⟩
theorem Bs.lessP (b : Bs Mb Hb M B H) (p : Addr) : Bs Mb Hb (DG.lessP M p) B H := ⟨b.hb, fun a m => b.mb a m.1⟩
theorem Rp.frz (r : Rp K Mb M B σ H ρ) {i : Nat} {ds : List D} (h0 : ρ[i]? = some (.own ds)) : ∃ p, ¬ Mb p ∧ Rp K Mb (lessP M p) B σ H (ρ.set i (.d (.lst ds))) := by
  obtain ⟨x, ex, p, vs, e1, mp, np, l, il⟩ := r.sl i _ h0
  have hi : i < ρ.length := (List.getElem?_eq_some_iff.mp h0).1
  refine ⟨p, np, by rw [List.length_set, r.len], fun j s e => ?_, fun j k s t q ej ek sj sk xj xk => ?_⟩
  · by_cases z : i = j
    · subst z
      rw [List.getElem?_set_self hi] at e
      cases e
      exact ⟨x, ex, .ref p, e1, p, vs, rfl, fun m => m.2 rfl, l, il.less fun _ m => m.1⟩
    · rw [List.getElem?_set_ne z] at e
      obtain ⟨y, ey, h⟩ := r.sl j s e
      refine ⟨y, ey, ?_⟩
      cases s with
      | no => trivial
      | d d =>
        obtain ⟨v, e2, iv⟩ := h
        exact ⟨v, e2, iv.less fun _ m => m.1⟩
      | own es =>
        obtain ⟨q, ws, e2, mq, nq, l2, il2⟩ := h
        have hne : q ≠ p := fun eq => by
          subst eq
          exact z (r.dis i j _ _ q h0 e rfl rfl (by rw [ex, e1]) (by rw [ey, e2]))
        exact ⟨q, ws, e2, ⟨mq, hne⟩, nq, l2, il2.less fun _ m => m.1⟩
      | dct kvs =>
        obtain ⟨q, ws, e2, mq, nq, l2, il2⟩ := h
        have hne : q ≠ p := fun eq => by
          subst eq
          rw [l] at l2
          cases l2
        refine ⟨q, ws, e2, ⟨mq, hne⟩, nq, l2, ?_⟩
        clear e e2 l2
        induction il2 with
        | nil => exact .nil
        | cons h _ ih => exact .cons (h.less fun _ m => m.1) ih
  · have back : ∀ (j : Nat) (s : SV), (ρ.set i (.d (.lst ds)))[j]? = some s → s.isOwn = true → ρ[j]? = some s := fun j s e so => by
      by_cases z : i = j
      · subst z
        rw [List.getElem?_set_self hi] at e
        cases e
        cases so
      · rwa [List.getElem?_set_ne z] at e
    exact r.dis j k s t q (back j s ej sj) (back k t ek sk) sj sk xj xk
end
section
variable {X : Cx} {E : XK} {ρ ρ' : List SV} {S : Type} {ss : List Stmt}
theorem sr_frz {b : Bool} {m : W D} (i : Nat) {ds : List D} (h : SR X E b ss ρ' m) (h0 : ρ[i]? = some (.own ds) := by rfl) (hr : ρ.set i (.d (.lst ds)) = ρ' := by rfl) : SR X E b ss ρ m := by
  intro Mb B Hb M σ H P EE D bs o r p er hn ee
  obtain ⟨q, nq, r2⟩ := r.frz h0
  rw [hr] at r2
  exact h Mb B Hb _ σ H P EE D (bs.lessP q) (o.lessP nq) r2 p er hn ee
theorem sn_frz {mk : S → List SV} {m : W S} (i : Nat) {ds : List D} (h : SN X E ss ρ' mk m) (h0 : ρ[i]? = some (.own ds) := by rfl) (hr : ρ.set i (.d (.lst ds)) = ρ' := by rfl) : SN X E ss ρ mk m := by
  intro Mb B Hb M σ H P EE D bs o r p en ee
  obtain ⟨q, nq, r2⟩ := r.frz h0
  rw [hr] at r2
  exact h Mb B Hb _ σ H P EE D (bs.lessP q) (o.lessP nq) r2 p en ee
theorem sx_frz {mk : S → List SV} {m : W (Out S)} (i : Nat) {ds : List D} (h : SX X E ss ρ' mk m) (h0 : ρ[i]? = some (.own ds) := by rfl) (hr : ρ.set i (.d (.lst ds)) = ρ' := by rfl) : SX X E ss ρ mk m := by
  intro Mb B Hb M σ H P EE D bs o r p en er ee
  obtain ⟨q, nq, r2⟩ := r.frz h0
  rw [hr] at r2
  exact h Mb B Hb _ σ H P EE D (bs.lessP q) (o.lessP nq) r2 p en er ee
theorem sf_frz {m : W (List D)} (i : Nat) {ds : List D} (h : SF X E ss ρ' m) (h0 : ρ[i]? = some (.own ds) := by rfl) (hr : ρ.set i (.d (.lst ds)) = ρ' := by rfl) : SF X E ss ρ m := by
  intro Mb B Hb M σ H P EE D bs o r p er ee
  obtain ⟨q, nq, r2⟩ := r.frz h0
  rw [hr] at r2
  exact h Mb B Hb _ σ H P EE D (bs.lessP q) (o.lessP nq) r2 p er ee
theorem s3_frz {m : W D3} (i : Nat) {ds : List D} (h : S3 X E ss ρ' m) (h0 : ρ[i]? = some (.own ds) := by rfl) (hr : ρ.set i (.d (.lst ds)) = ρ' := by rfl) : S3 X E ss ρ m := by
  intro Mb B Hb M σ H P EE D bs o r p er ee
  obtain ⟨q, nq, r2⟩ := r.frz h0
  rw [hr] at r2
  exact h Mb B Hb _ σ H P EE D (bs.lessP q) (o.lessP nq) r2 p er ee
end
end DG

/-! ## DG18 -/
set_option Elab.async false
set_option linter.all false
set_option maxRecDepth 100000
set_option maxHeartbeats 4000000
namespace DG
open PySem PySem.Spec PyProof.Rows L2
/-! ### zip of lists and tuples in any mix -/
def SqB (b : Bool) (K : PySem.W.Frag) (H : Hp) (a : Addr) (xs : List V) : Prop := if b = true then SqT K H a xs else SqL K H a xs
def IterB (b : Bool) (h : Heap) (it a : Addr) (i : Nat) : Prop := if b = true then h.IsTupleIter it a i else h.IsListIter it a i
def SeqB (b : Bool) (h : Heap) (a : Addr) (its : Array Value) : Prop := if b = true then h.IsTuple a its else h.IsList a its
theorem iterB_obj {b : Bool} {h : Heap} {it a : Addr} {i : Nat} (st : IterB b h it a i) : ∃ o, h.get? it = some o ∧ ∀ v, o.data ≠ .cell v := by
  cases b with
  | true => obtain ⟨o, e, _, d⟩ := st; exact ⟨o, e, fun v q => by rw [d] at q; cases q⟩
  | false => obtain ⟨o, e, _, d⟩ := st; exact ⟨o, e, fun v q => by rw [d] at q; cases q⟩
theorem iterB_at {b : Bool} {h h' : Heap} {it a : Addr} {i : Nat} (st : IterB b h it a i) (k : ∀ o, h.get? it = some o → h'.get? it = some o) : IterB b h' it a i := by
  cases b with
  | true => exact Heap.IsTupleIter.at st k
  | false => exact Heap.IsListIter.at st k
theorem drawsB {prog : Program} {w : World} {A : Around} (b : Bool) (hh : A.handled = none) (it t : Addr) (hne : t ≠ it) (items : Array Value) :
    Draws prog w A it [it, t] items.size (fun i v => items[i]? = some v) (fun i h => IterB b h it t i ∧ SeqB b h t items) := by
  cases b with
  | true => exact Draws.tuple hh it t hne items
  | false => exact Draws.list hh it t hne items
theorem srcB {X : Cx} {pins : List (Addr × Obj)} {σ : L2.St} {H : Hp} {s : Shared} (I : Inv X pins σ H s) {b : Bool} {a : Addr} {xs : List V} (h : SqB b X.K H a xs) : ∃ its : List Value, Vals xs its ∧ SeqB b s.heap a its.toArray ∧ a < s.heap.objs.size := by
  cases b with
  | true =>
    obtain ⟨its, rv, p, _⟩ := I.tuple h
    exact ⟨its, rv, p, p.lt⟩
  | false =>
    obtain ⟨its, rv, p, _⟩ := I.list h
    exact ⟨its, rv, p.isList, p.lt⟩
theorem injB {X : Cx} {pins : List (Addr × Obj)} {σ : L2.St} {H : Hp} {s : Shared} (I : Inv X pins σ H s) {b : Bool} {a : Addr} {xs ys : List V} (h : SqB b X.K H a xs) (h' : SqB b X.K H a ys) : xs = ys := by
  cases b with
  | true => exact I.tuple_inj h h'
  | false => exact I.list_inj h h'
/-- the things at a and b as they stand at each turn, the items in new pairs -/
def ItzM (b1 b2 : Bool) (K : PySem.W.Frag) (a b : Addr) : It where
  go := fun i H => ∃ (xs ys : List V) (x y : V), SqB b1 K H a xs ∧ SqB b2 K H b ys ∧ xs[i]? = some x ∧ ys[i]? = some y
  yld := fun i H v H' => ∃ T x y, v = .ref T ∧ H T = none ∧ H' = upd H T (.tup [x, y]) ∧ (∀ xs, SqB b1 K H a xs → xs[i]? = some x) ∧ ∀ ys, SqB b2 K H b ys → ys[i]? = some y
  stop := fun i H => ∃ xs ys : List V, SqB b1 K H a xs ∧ SqB b2 K H b ys ∧ ((xs.length = i ∧ i ≤ ys.length) ∨ (ys.length = i ∧ i ≤ xs.length))
theorem turn_zipM {P : Program} {w : World} {K : PySem.W.Frag} {elts : List Expr} {kk : Nat} {tpos : Pos} {a b z TI TO i1 i2 : Addr} (b1 b2 : Bool) (D : ZipSep2 z TI TO i1 i2 [i1, a] [i2, b]) (na : a ≠ i1) (nb : b ≠ i2) :
    Turn P w K (.Tuple elts kk tpos) (ItzM b1 b2 K a b) [z, TI, TO, i1, i2] z (fun i h => IsZip h z TI TO .none ∧ IsTupOf2 h TI (.ref i1) (.ref i2) ∧ (∃ x y, IsTupOf2 h TO x y) ∧ IterB b1 h i1 a i ∧ IterB b2 h i2 b i) where
  mem := by simp
  obj := fun i h st c hc => by
    obtain ⟨hz, hTI, ⟨x, y, hTO⟩, h1, h2⟩ := st
    have e' : c = z ∨ c = TI ∨ c = TO ∨ c = i1 ∨ c = i2 := by simpa using hc
    rcases e' with q | q | q | q | q
    · rw [q]; exact ⟨_, hz, fun v q => nomatch q⟩
    · rw [q]; exact ⟨_, hTI, fun v q => nomatch q⟩
    · rw [q]; exact ⟨_, hTO, fun v q => nomatch q⟩
    · rw [q]; exact iterB_obj h1
    · rw [q]; exact iterB_obj h2
  keep := fun i h h' st k => by
    obtain ⟨hz, hTI, ⟨x, y, hTO⟩, h1, h2⟩ := st
    exact ⟨k z (by simp) _ hz, k TI (by simp) _ hTI, ⟨x, y, k TO (by simp) _ hTO⟩, iterB_at h1 fun o q => k i1 (by simp) o q, iterB_at h2 fun o q => k i2 (by simp) o q⟩
  item := by
    intro X hP hw hK hc i pins s σ H E I hf st hg
    subst hP hw hK
    obtain ⟨hz, hTI, ⟨x0, y0, hTO⟩, h1, h2⟩ := st
    obtain ⟨xs, ys, x, y, hqx, hqy, hx, hy⟩ := hg
    obtain ⟨its, rv, p, _⟩ := srcB I hqx
    obtain ⟨its2, rv2, p2, _⟩ := srcB I hqy
    obtain ⟨u, hu, ru⟩ := rv.get hx
    obtain ⟨u2, hu2, ru2⟩ := rv2.get hy
    have hzl : z < s.heap.objs.size := Heap.lt_size hz
    have hi1 : i1 < s.heap.objs.size := by obtain ⟨_, e1, _⟩ := iterB_obj h1; exact Heap.lt_size e1
    have hi2 : i2 < s.heap.objs.size := by obtain ⟨_, e2, _⟩ := iterB_obj h2; exact Heap.lt_size e2
    refine wpAny_pyNext_zipD2_item D (drawsB (A := X.A.in1) b1 (I.ok.hd hc) i1 a na its.toArray) (drawsB (A := X.A.in1) b2 (I.ok.hd hc) i2 b nb its2.toArray) hz hTI hTO ⟨h1, p⟩ ⟨h2, p2⟩ (by rw [List.size_toArray]; exact (List.getElem?_eq_some_iff.mp hu).1) (by rw [List.size_toArray]; exact (List.getElem?_eq_some_iff.mp hu2).1) fun x1 x2 h' tk y1 y2 z' TO' s1 s2 hT hsz hk => ?_
    have ex1 : x1 = u := by
      rw [List.getElem?_toArray, hu] at y1
      exact (Option.some.inj y1).symm
    have ex2 : x2 = u2 := by
      rw [List.getElem?_toArray, hu2] at y2
      exact (Option.some.inj y2).symm
    subst ex1 ex2
    refine ⟨_, rfl, wpAny_letOwnedTupleGo_zip (s := { s with heap := h', toks := tk }) z' fun h'' z'' sb => ?_⟩
    have hT2 : h''.get? s.heap.objs.size = some { cls := .type "tuple", data := .seq #[x1, x2] } := (sb.2 _ (Nat.ne_of_gt hzl)).trans hT
    have new : ObjOk X.prog X.w (upd H s.heap.objs.size (.tup [x, y])) h'' s.heap.objs.size (.tup [x, y]) :=
      ⟨by show 2 ≤ sizeLine; decide, [x1, x2], .cons ru (.cons ru2 .nil), ⟨_, hT2, rfl, _, rfl⟩⟩
    have I1 : Inv X pins σ (upd H s.heap.objs.size (.tup [x, y])) { s with heap := h'', toks := tk } :=
      I.turnedNew (t' := tk) (ch := [z, TI, TO, i1, i2]) (fun c o hb q => (sb.2 c (fun q' => hb (by simp [q']))).trans (hk c o (fun q' => hb (by simp [q'])) (fun q' => hb (by simp [q'])) (fun q' => hb (by simp [q'])) (fun q' => hb (by simp [q'])) q)) hf (Nat.le_refl _) new
    refine ⟨.ref s.heap.objs.size, _, I1, rfl, ⟨_, x, y, rfl, I.hok.fresh (Nat.le_refl _), rfl, fun l hl => by rw [injB I hl hqx]; exact hx, fun l hl => by rw [injB I hl hqy]; exact hy⟩, ⟨z'', ?_, ⟨x1, x2, ?_⟩, ?_, ?_⟩, fun c hcm => ?_⟩
    · exact (sb.2 _ D.TIz).trans (hk _ _ D.TIz D.TITO D.TIi1 D.TIi2 hTI)
    · exact (sb.2 _ D.TOz).trans TO'
    · exact iterB_at s1.1 fun o q => (sb.2 _ (fun e => D.zi1 e.symm)).trans q
    · exact iterB_at s2.1 fun o q => (sb.2 _ (fun e => D.zi2 e.symm)).trans q
    · have hlt : c < s.heap.objs.size := by
        have e' : c = z ∨ c = TI ∨ c = TO ∨ c = i1 ∨ c = i2 := by simpa using hcm
        rcases e' with q | q | q | q | q
        · rw [q]; exact hzl
        · rw [q]; exact Heap.lt_size hTI
        · rw [q]; exact Heap.lt_size hTO
        · rw [q]; exact hi1
        · rw [q]; exact hi2
      rw [upd_ne (Nat.ne_of_lt hlt)]
      exact (hf c hcm).1
  done := by
    intro X hP hw hK hc i pins s σ H E I hf st hg
    subst hP hw hK
    obtain ⟨hz, hTI, ⟨x0, y0, hTO⟩, h1, h2⟩ := st
    obtain ⟨xs, ys, hqx, hqy, hend⟩ := hg
    obtain ⟨its, rv, p, _⟩ := srcB I hqx
    obtain ⟨its2, rv2, p2, _⟩ := srcB I hqy
    have l1 := rv.length
    have l2 := rv2.length
    have e1 : its.toArray.size = xs.length := by rw [List.size_toArray, l1]
    have e2 : its2.toArray.size = ys.length := by rw [List.size_toArray, l2]
    refine wpAny_pyNext_zipD2_end D (drawsB (A := X.A.in1) b1 (I.ok.hd hc) i1 a na its.toArray) (drawsB (A := X.A.in1) b2 (I.ok.hd hc) i2 b nb its2.toArray) hz hTI hTO ⟨h1, p⟩ ⟨h2, p2⟩ (by omega) (by omega) (by omega) fun h' tk hk => ⟨rfl, I.turnedL (t' := tk) (ch := [z, TI, TO, i1, i2]) (fun c o hb q =>
      hk c o (fun q' => hb (by simp [q'])) (fun q' => hb (by simp [q'])) (fun q' => hb (by simp [q'])) (fun q' => hb (by simp [q'])) q) hf⟩
  self := fun A i s Q E st h => wpAny_pyIter_zip st.1 h
def iZipM (b1 b2 : Bool) (K : PySem.W.Frag) (ta : TA) : TI := fun σ H R => ta σ H fun vs H1 => ∃ a b xs ys, vs = [.ref a, .ref b] ∧ SqB b1 K H1 a xs ∧ SqB b2 K H1 b ys ∧ R (ItzM b1 b2 K a b) H1
def orI (t u : TI) : TI := fun σ H R => t σ H R ∨ u σ H R
def begObj (b : Bool) (a : Addr) : Obj := if b = true then { cls := .type "tuple_iterator", data := .fields #[.ref a, .int 0 0] } else { cls := .type "list_iterator", data := .fields #[.ref a, .int 0 0] }
theorem beginsB (b : Bool) (a : Addr) (its : Array Value) : Begins (.ref a) (begObj b a) fun h => SeqB b h a its := by
  cases b with
  | true => exact begins_tuple a its
  | false => exact begins_list a its
theorem iterB_beg {b : Bool} {h : Heap} {it a : Addr} (e : h.get? it = some (begObj b a)) : IterB b h it a 0 := by
  cases b with
  | true => exact ⟨_, e, rfl, rfl⟩
  | false => exact ⟨_, e, rfl, rfl⟩
/-- one reading that asks, behind the arguments, which mix it is -/
def iZipAny (K : PySem.W.Frag) (ta : TA) : TI := fun σ H R => ta σ H fun vs H1 => ∃ b1 b2 a b xs ys, vs = [.ref a, .ref b] ∧ SqB b1 K H1 a xs ∧ SqB b2 K H1 b ys ∧ R (ItzM b1 b2 K a b) H1
theorem pi_zipAny {X : Cx} {e e2 : Expr} {ta : TA} {p pos tpos : Pos} {elts : List Expr} {kk : Nat} (hg : Gl X "zip") (hm : X.mg "zip" = none) (ha : PA X [e, e2] ta)
    (hs : starEach [e, e2] X.env = (false, eval e X.env) :: starEach [e2] X.env := by rfl) (hpl : (backTo pos (starEach [e2] X.env)).any (·.1) = false := by rfl) :
    PI X (.Tuple elts kk tpos) (.Call (.Name "zip" p) [e, e2] [] pos) (iZipAny X.K ta) := by
  refine ⟨fun pins s σ H R I h => ?_⟩
  refine Call_ (ld_blt I hg hm PyProof.Rows.boot_zip (PyProof.Rows.callWith_type1 (thn (ha.run pos pins s σ H _ I h) fun us s1 ⟨vs, H1, I1, r1, q1⟩ => ?_) hs hpl))
  obtain ⟨b1, b2, a, b, xs, ys, ex, hqx, hqy, q⟩ := q1
  subst ex
  cases r1 with
  | cons r rr =>
    cases rr with
    | cons r' rr =>
      cases rr
      cases r
      cases r'
      have fresh5 : ∀ c, c ∈ [s1.heap.objs.size + 4, s1.heap.objs.size + 2, s1.heap.objs.size + 3, s1.heap.objs.size, s1.heap.objs.size + 1] → FpOk X pins H1 c := fun c hcm => by
        have e' : c = s1.heap.objs.size + 4 ∨ c = s1.heap.objs.size + 2 ∨ c = s1.heap.objs.size + 3 ∨ c = s1.heap.objs.size ∨ c = s1.heap.objs.size + 1 := by simpa using hcm
        have hle : s1.heap.objs.size ≤ c := by
          rcases e' with z | z | z | z | z
          · rw [z]; exact Nat.le_add_right _ _
          · rw [z]; exact Nat.le_add_right _ _
          · rw [z]; exact Nat.le_add_right _ _
          · rw [z]; exact Nat.le_refl _
          · rw [z]; exact Nat.le_add_right _ _
        exact I1.fpOk hle (I1.hok.fresh hle)
      obtain ⟨its, rv, p1, la⟩ := srcB I1 hqx
      obtain ⟨its2, rv2, p2, lb⟩ := srcB I1 hqy
      refine zip_begins2 (beginsB b1 a its.toArray) (beginsB b2 b its2.toArray) p1 p2 fun h' hz hTI hTO h1 h2 hsz hk => wpAny_pyIter_zip hz ?_
      have I2 : Inv X pins σ H1 { s1 with heap := h' } := I1.kept (t' := s1.toks) hk
      exact ⟨s1.heap.objs.size + 4, [s1.heap.objs.size + 4, s1.heap.objs.size + 2, s1.heap.objs.size + 3, s1.heap.objs.size, s1.heap.objs.size + 1], _, _, H1, rfl, I2, turn_zipM b1 b2 (zip_sep2 (fun c m => by rw [List.mem_singleton.mp m]; exact la) (fun c m => by rw [List.mem_singleton.mp m]; exact lb)) (Nat.ne_of_lt la) (Nat.ne_of_lt (Nat.lt_succ_of_lt lb)), ⟨hz, hTI, ⟨_, _, hTO⟩, iterB_beg h1, iterB_beg h2⟩, fresh5, q⟩
section
variable {K : PySem.W.Frag} {M M' B : Addr → Prop} {H H' : Hp}
/-- a thing that is walked: a list that is not tracked, or a tuple -/
def SrcB (b : Bool) (K : PySem.W.Frag) (M : Addr → Prop) (H : Hp) (a : Addr) (vs : List V) : Prop := if b = true then SqT K H a vs else ¬ M a ∧ H a = some (.lst vs)
theorem SrcB.sq {b : Bool} {a : Addr} {vs : List V} (h : SrcB b K M H a vs) : SqB b K H a vs := by
  cases b with
  | true => exact h
  | false => exact SqL.of h.2
theorem SrcB.keep (k : Kept M M' H H') {b : Bool} {a : Addr} {vs : List V} (h : SrcB b K M H a vs) : SrcB b K M' H' a vs := by
  cases b with
  | true => exact k.sqT h
  | false => exact k.ls a vs h.1 h.2
theorem walk_zipM {b1 b2 : Bool} {a b : Addr} {ds ds' : List D} {vs vs' : List V} (h : SrcB b1 K M H a vs) (il : IsL K M B H ds vs) (h' : SrcB b2 K M H b vs') (il' : IsL K M B H ds' vs') : Walk K M B H (pairL ds ds') (ItzM b1 b2 K a b) where
  go := fun Mb' M' H2 i o k hi => by
    rw [pairL_len] at hi
    have hv : i < vs.length := by rw [il.len]; omega
    have hv' : i < vs'.length := by rw [il'.len]; omega
    exact ⟨vs, vs', _, _, (h.keep k).sq, (h'.keep k).sq, List.getElem?_eq_getElem hv, List.getElem?_eq_getElem hv'⟩
  yl := fun Mb' M' H2 i d x H3 o k hd y => by
    obtain ⟨T, x1, x2, rfl, hT, rfl, y1, y2⟩ := y
    obtain ⟨d1, d2, e1, e2, rfl⟩ := pairL_get _ _ _ _ hd
    obtain ⟨v1, f1, i1⟩ := (k.isL il).get e1
    obtain ⟨v2, f2, i2⟩ := (k.isL il').get e2
    have g1 := y1 vs (h.keep k).sq
    have g2 := y2 vs' (h'.keep k).sq
    rw [f1] at g1
    rw [f2] at g2
    cases g1
    cases g2
    have g := Go.new (u := .tup [x1, x2]) o hT
    exact ⟨g, T, _, rfl, .of upd_same, x1, _, rfl, i1.mono g.ext o, x2, [], rfl, i2.mono g.ext o, rfl⟩
  st := fun Mb' M' H2 i o k hi => by
    rw [pairL_len] at hi
    refine ⟨vs, vs', (h.keep k).sq, (h'.keep k).sq, ?_⟩
    rw [il.len, il'.len]
    omega
end
def D.seq? : D → Option (Bool × List D)
  | .lst ds => some (false, ds)
  | .tup ds => some (true, ds)
  | _ => none
theorem seq_src {K : PySem.W.Frag} {M B : Addr → Prop} {H : Hp} {d : D} {v : V} {b : Bool} {ds : List D} (e : d.seq? = some (b, ds)) (i : Is K M B H d v) : ∃ a vs, v = .ref a ∧ SrcB b K M H a vs ∧ IsL K M B H ds vs := by
  cases d with
  | lst es =>
    cases e
    obtain ⟨a, xs, e1, n1, l1, is1⟩ := isLs i
    exact ⟨a, xs, e1, ⟨n1, l1⟩, is1⟩
  | tup es =>
    cases e
    obtain ⟨a, xs, e1, l1, is1⟩ := isT i
    exact ⟨a, xs, e1, l1.sqT, is1⟩
  | _ => cases e
def zipD : List D → W (List D)
  | [.lst as, .lst bs] => pure (pairL as bs)
  | [.tup as, .tup bs] => pure (pairL as bs)
  | [.lst as, .tup bs] => pure (pairL as bs)
  | [.tup as, .lst bs] => pure (pairL as bs)
  | _ => stuck
theorem zipD_inv {ds : List D} {P : List D → Prop} {EE : Exn → Prop} (p : zipD ds P EE) : ∃ d e b1 b2 as bs, ds = [d, e] ∧ d.seq? = some (b1, as) ∧ e.seq? = some (b2, bs) ∧ P (pairL as bs) := by
  unfold zipD at p
  split at p
  · exact ⟨_, _, _, _, _, _, rfl, rfl, rfl, p⟩
  · exact ⟨_, _, _, _, _, _, rfl, rfl, rfl, p⟩
  · exact ⟨_, _, _, _, _, _, rfl, rfl, rfl, p⟩
  · exact ⟨_, _, _, _, _, _, rfl, rfl, rfl, p⟩
  · exact False.elim p
theorem ix_zip {X : Cx} {E : XK} {ρ : List SV} {pos : Pos} {e e2 : Expr} {p tpos : Pos} {elts : List Expr} {kk : Nat} {m : W (List D)} (ha : EA X E [e, e2] ρ m) (hm : X.mg "zip" = none) (hg : Gl X "zip" := by rfl)
    (hs : starEach [e, e2] X.env = (false, eval e X.env) :: starEach [e2] X.env := by rfl) (hpl : (backTo pos (starEach [e2] X.env)).any (·.1) = false := by rfl) :
    IX X E (.Tuple elts kk tpos) (.Call (.Name "zip" p) [e, e2] [] pos) ρ (do let ds ← m; zipD ds) := by
  intro Mb M B σ H P EE R o rp pm q ee
  refine of_pi (pi_zipAny hg hm pa_w hs hpl) ?_
  refine ha Mb M B σ H (fun ds => zipD ds P EE) EE _ o rp pm (fun ds vs H1 pd g1 il nl => ?_) ee
  obtain ⟨d, d', b1, b2, as, bs, rfl, s1, s2, pp⟩ := zipD_inv pd
  obtain ⟨v, v', ev, i1, i2⟩ := isTwo il
  obtain ⟨a, xs, e1, l1, is1⟩ := seq_src s1 i1
  obtain ⟨b, ys, e2, l2, is2⟩ := seq_src s2 i2
  exact ⟨b1, b2, a, b, xs, ys, by rw [ev, e1, e2], l1.sq, l2.sq, q _ _ H1 pp g1 (walk_zipM l1 is1 l2 is2)⟩
end DG

/-! ## DG21 -/
set_option Elab.async false
set_option linter.all false
set_option maxRecDepth 100000
set_option maxHeartbeats 4000000
namespace DG
open PySem PySem.Spec PyProof.Rows L2
/-! ### own dicts: read, written, walked -/
section
variable {K : PySem.W.Frag} {Mb M M' B : Addr → Prop} {H H' H1 Hb : Hp} {σ : L2.St} {ρ : List SV}
def D.key? : D → Option Key
  | .int i => some (.inl i)
  | .str x => some (.inr x)
  | _ => none
theorem key_is {d : D} {k : Key} {v : V} (h : d.key? = some k) (i : Is K M B H d v) : v = kV k := by
  cases d <;> first | cases h | skip
  · exact i
  · exact i
abbrev Tb : Type := List (Key × D)
def getK (t : Tb) (k : Key) : Option D := (t.find? fun kv => decide (kv.1 = k)).map (·.2)
def setK (t : Tb) (k : Key) (d : D) : Tb := if (t.any fun kv => decide (kv.1 = k)) = true then t.map (fun kv => if kv.1 = k then (kv.1, d) else kv) else t ++ [(k, d)]
theorem KIs.len {t : Tb} {vs : List (Key × V)} (h : KIs K M B H t vs) : vs.length = t.length := by
  induction h with
  | nil => rfl
  | cons _ _ ih => rw [List.length_cons, List.length_cons, ih]
theorem KIs.look {t : Tb} {vs : List (Key × V)} (h : KIs K M B H t vs) (k : Key) : match getK t k with
    | some d => ∃ v, valV vs k = some v ∧ Is K M B H d v
    | none => valV vs k = none := by
  induction h with
  | nil => rfl
  | @cons k' d v t vs i _ ih =>
    by_cases e : k' = k
    · rw [show getK ((k', d) :: t) k = some d by simp [getK, List.find?_cons, e]]
      exact ⟨v, valV_pos e, i⟩
    · rw [show getK ((k', d) :: t) k = getK t k by simp [getK, List.find?_cons, e], valV_neg (p := (k', v)) e]
      exact ih
theorem KIs.anyK {t : Tb} {vs : List (Key × V)} (h : KIs K M B H t vs) (k : Key) : (vs.any fun kv => decide (kv.1 = k)) = (t.any fun kv => decide (kv.1 = k)) := by
  induction h with
  | nil => rfl
  | cons _ _ ih => rw [List.any_cons, List.any_cons, ih]
theorem KIs.setAll {t : Tb} {vs : List (Key × V)} (h : KIs K M B H t vs) (k : Key) {d : D} {v : V} (i : Is K M B H d v) : KIs K M B H (t.map fun kv => if kv.1 = k then (kv.1, d) else kv) (vs.map fun kv => if kv.1 = k then (kv.1, v) else kv) := by
  induction h with
  | nil => exact .nil
  | @cons k' d' v' t vs i' _ ih =>
    rw [List.map_cons, List.map_cons]
    by_cases e : k' = k
    · rw [if_pos e, if_pos e]
      exact .cons i ih
    · rw [if_neg e, if_neg e]
      exact .cons i' ih
theorem KIs.add {t : Tb} {vs : List (Key × V)} (h : KIs K M B H t vs) (k : Key) {d : D} {v : V} (i : Is K M B H d v) : KIs K M B H (t ++ [(k, d)]) (vs ++ [(k, v)]) := by
  induction h with
  | nil => exact .cons i .nil
  | cons i' _ ih => exact .cons i' ih
theorem KIs.put {t : Tb} {vs : List (Key × V)} (h : KIs K M B H t vs) (k : Key) {d : D} {v : V} (i : Is K M B H d v) : KIs K M B H (setK t k d) (putK vs k v) := by
  unfold setK putK
  rw [h.anyK k]
  split
  · exact h.setAll k i
  · exact h.add k i
/-- what the own slot i holds is written -/
theorem Bs.upd (bs : Bs Mb Hb M B H1) {q : Addr} {u : HO} (mp : M q) (np : ¬ Mb q) : Bs Mb Hb M B (L2.upd H1 q u) := by
  have hq : Hb q = none := (bs.mb q mp).resolve_left np
  exact ⟨⟨fun a w e nb => by rw [upd_ne (ne_of_none e hq)]; exact bs.hb.k a w e nb, fun a q' c ba e nc => by rw [upd_ne (ne_of_none e hq)]; exact bs.hb.b a q' c ba e nc⟩, bs.mb⟩
theorem set_self {σ : L2.St} {i : Nat} {o : Option V} (e0 : σ[i]? = some o) : σ.set i o = σ := by
  apply List.ext_getElem?
  intro j
  by_cases z : i = j
  · subst z
    rw [List.getElem?_set_self (List.getElem?_eq_some_iff.mp e0).1, e0]
  · rw [List.getElem?_set_ne z]
theorem Rp.upd (r : Rp K Mb M B σ H1 ρ) {i : Nat} {s0 sv : SV} {q : Addr} {w u : HO} (h0 : ρ[i]? = some s0) (w0 : s0.isOwn = true) (e0 : σ[i]? = some (some (.ref q))) (mp : M q) (l1 : H1 q = some w) (ni : ¬ Imm w)
    (hs : SlotIs K Mb M B (L2.upd H1 q u) sv (some (.ref q))) : Rp K Mb M B σ (L2.upd H1 q u) (ρ.set i sv) := by
  have kp : Kept M M H1 (L2.upd H1 q u) := .put mp l1 ni
  have rn := r.setNo (i := i) (o := some (.ref q))
  rw [set_self e0] at rn
  have r2 : Rp K Mb M B σ (L2.upd H1 q u) (ρ.set i .no) := by
    refine ⟨rn.len, fun j s e => ?_, rn.dis⟩
    obtain ⟨y, ey, sy⟩ := rn.sl j s e
    have far : s.isOwn = true → ∀ p', y = some (.ref p') → p' ≠ q := fun z p' w1 w2 => by
      by_cases hj : j = i
      · rw [hj, List.getElem?_set_self (List.getElem?_eq_some_iff.mp h0).1] at e
        cases e
        cases z
      · rw [List.getElem?_set_ne (Ne.symm hj)] at e
        exact hj (r.dis j i s _ p' e h0 z w0 (by rw [ey, w1]) (by rw [e0, w2]))
    refine ⟨y, ey, ?_⟩
    cases s with
    | no => trivial
    | d d =>
      obtain ⟨x, e2, ix⟩ := sy
      exact ⟨x, e2, Is.keep kp (fun _ b => b) _ _ ix⟩
    | own es =>
      obtain ⟨p', ws, e2, m', n', l', il'⟩ := sy
      exact ⟨p', ws, e2, m', n', (upd_ne (far rfl p' e2)).trans l', kp.isL il'⟩
    | dct es =>
      obtain ⟨p', ws, e2, m', n', l', il'⟩ := sy
      exact ⟨p', ws, e2, m', n', (upd_ne (far rfl p' e2)).trans l', il'.keep kp⟩
  have r3 := r2.setOwn (i := i) (p := q) (sv := sv) hs fun j s e z hj x => by
    rw [List.getElem?_set_ne (Ne.symm hj)] at e
    exact hj (r.dis j i s _ q e h0 z w0 x e0)
  rwa [set_self e0, List.set_set] at r3
mutual
theorem Is.off {p : Addr} {ob : Obj} {w u : HO} (hp : H p = some (.frz ob w)) (h1 : ∀ xs, w ≠ .tup xs) (h2 : ∀ xs, w ≠ .lst xs) (hm : ∀ a, M' a → M a ∨ a = p) : ∀ (d : D) (v : V), Is K M B H d v → Is K M' B (L2.upd H p u) d v
  | .non, _, h => h
  | .bl _, _, h => h
  | .int _, _, h => h
  | .str _, _, h => h
  | .fn _, _, h => h
  | .bag, _, h => h
  | .tup ds, _, ⟨a, vs, e, s, l⟩ => by
    refine ⟨a, vs, e, ?_, IsL.off hp h1 h2 hm ds vs l⟩
    rcases s with ⟨o, h, n⟩ | h
    · exact .inl ⟨o, by rw [upd_ne (fun z => by rw [z, hp] at h; cases h; exact h1 _ rfl)]; exact h, n⟩
    · exact .inr h
  | .pr ds, _, ⟨a, vs, e, s, l⟩ => by
    refine ⟨a, vs, e, ?_, IsL.off hp h1 h2 hm ds vs l⟩
    rcases s with (h | ⟨o, h⟩) | h
    · exact .inl (.inl (by rw [upd_ne (fun z => by rw [z, hp] at h; cases h)]; exact h))
    · exact .inl (.inr ⟨o, by rw [upd_ne (fun z => by rw [z, hp] at h; cases h; exact h1 _ rfl)]; exact h⟩)
    · exact .inr h
  | .lst ds, _, ⟨a, vs, e, n, s, l⟩ => by
    have na : a ≠ p := fun z => by rw [z, hp] at s; cases s
    exact ⟨a, vs, e, fun m => (hm a m).elim n na, (upd_ne na).trans s, IsL.off hp h1 h2 hm ds vs l⟩
  | .scr ns, _, ⟨a, e, s⟩ => by
    refine ⟨a, e, ?_⟩
    rcases s with ⟨o, h⟩ | h
    · exact .inl ⟨o, by rw [upd_ne (fun z => by rw [z, hp] at h; cases h; exact h2 _ rfl)]; exact h⟩
    · exact .inr h
theorem IsL.off {p : Addr} {ob : Obj} {w u : HO} (hp : H p = some (.frz ob w)) (h1 : ∀ xs, w ≠ .tup xs) (h2 : ∀ xs, w ≠ .lst xs) (hm : ∀ a, M' a → M a ∨ a = p) : ∀ (ds : List D) (vs : List V), IsL K M B H ds vs → IsL K M' B (L2.upd H p u) ds vs
  | [], _, h => h
  | d :: ds, _, ⟨v, r, e, i1, i2⟩ => ⟨v, r, e, Is.off hp h1 h2 hm d v i1, IsL.off hp h1 h2 hm ds r i2⟩
end
end
def kget (t : Tb) (d : D) : W D := match d.key? with
  | some k => optW (getK t k) pure
  | none => stuck
def kget2 (t : Tb) (d z : D) : W D := match d.key? with
  | some k => pure ((getK t k).getD z)
  | none => stuck
def kput (t : Tb) (k d : D) : W Tb := match k.key? with
  | some k => need (t.length < line) (pure (setK t k d))
  | none => stuck
def khas (t : Tb) (d : D) : W Bool := match d.key? with
  | some k => pure (getK t k).isSome
  | none => stuck
section
variable {X : Cx} {E : XK} {ρ : List SV} {pos pos' cpos apos : Pos} {x : Str} {e f : Expr} {m mf : W D} {t : Tb} {p1 : Pos}
theorem Rp.dct {K : PySem.W.Frag} {Mb M B : Addr → Prop} {σ : L2.St} {H : Hp} (r : Rp K Mb M B σ H ρ) {i : Nat} (h0 : ρ[i]? = some (.dct t)) : ∃ q vs, σ[i]? = some (some (.ref q)) ∧ M q ∧ ¬ Mb q ∧ H q = some (.dK vs) ∧ KIs K M B H t vs := by
  obtain ⟨x0, e0, q, vs, e1, mp, np, l, il⟩ := r.sl i _ h0
  exact ⟨q, vs, by rw [e0, e1], mp, np, l, il⟩
theorem ex_kget (i : Nat) (hu : X.A.units + 1 < cLine) (he : EX X E e ρ m) (h0 : ρ[i]? = some (.dct t) := by rfl) (hN : X.N[i]? = some x := by rfl) (hv : Vis X.env.scope x := by first | exact Or.inl rfl | exact Or.inr (Or.inl rfl) | exact Or.inr (Or.inr rfl))
    (hd : (x == ("__debug__" : Str)) = false := by decide) (hcd : (x == ("__classdict__" : Str)) = false := by decide) (hs : NoSl e := by intro _ _; rfl) : EX X E (.Subscript (.Name x p1) e pos) ρ (do let k ← m; kget t k) := by
  intro Mb M B σ H P EE Q o r p q ee
  refine of_pe (pe_dget hu (pe_var hN hv hd hcd) pe_w hs) ?_
  obtain ⟨c, vs, e0, mp, np, l, il⟩ := r.dct h0
  refine ⟨_, e0, he Mb M B σ H _ EE _ o r p (fun d v H1 pd g iv => ?_) ee⟩
  have l1 : H1 c = some (.dK vs) := g.ext.k c _ l fun b => np (o.bm c b)
  have pd : kget t d P EE := pd
  unfold kget at pd
  cases hk : d.key? with
  | none => rw [hk] at pd; exact pd.elim
  | some k =>
    rw [hk] at pd
    have := (il.mono g.ext o).look k
    cases hg : getK t k with
    | none => simp only [hg] at pd; exact pd.elim
    | some z =>
      simp only [hg] at pd this
      obtain ⟨y, e2, iy⟩ := this
      rw [key_is hk iv]
      exact ⟨c, y, rfl, by rw [← e2]; exact .k l1, q z y H1 pd g iy⟩
theorem ex_kget2 (i : Nat) (hu : X.A.units + 1 < cLine) (he : EX X E e ρ m) (hf : EX X E f ρ mf) (h0 : ρ[i]? = some (.dct t) := by rfl) (hN : X.N[i]? = some x := by rfl) (hv : Vis X.env.scope x := by first | exact Or.inl rfl | exact Or.inr (Or.inl rfl) | exact Or.inr (Or.inr rfl))
    (hd : (x == ("__debug__" : Str)) = false := by decide) (hcd : (x == ("__classdict__" : Str)) = false := by decide) (hm : M2 X (.Name x p1) "get" apos e f cpos := by exact ⟨rfl, rfl, rfl, rfl⟩) : EX X E (.Call (.Attribute (.Name x p1) "get" apos) [e, f] [] cpos) ρ (do let k ← m; let z ← mf; kget2 t k z) := by
  intro Mb M B σ H P EE Q o r p q ee
  refine of_pe (pe_dget2 hu (pe_var hN hv hd hcd) pe_w pe_w hm) ?_
  obtain ⟨c, vs, e0, mp, np, l, il⟩ := r.dct h0
  have nb : ¬ B c := fun b => np (o.bm c b)
  refine ⟨_, e0, c, rfl, .inl ⟨vs, .of l⟩, he Mb M B σ H (fun k => (do let z ← mf; kget2 t k z : W D) P EE) EE _ o r p (fun d v H1 pd g iv => ?_) ee⟩
  refine hf Mb M B σ H1 (fun z => kget2 t d z P EE) EE _ g.ok (r.go o g) pd (fun z w H2 pz g2 iz => ?_) (ee.go g)
  have l2 : H2 c = some (.dK vs) := g2.ext.k c _ (g.ext.k c _ l nb) nb
  have pz : kget2 t d z P EE := pz
  unfold kget2 at pz
  cases hk : d.key? with
  | none => rw [hk] at pz; exact pz.elim
  | some k =>
    rw [hk] at pz
    have gg := g.trans g2
    have := (il.mono gg.ext o).look k
    rw [key_is hk iv]
    refine ⟨valV vs k, .k l2, ?_⟩
    cases hg : getK t k with
    | none =>
      simp only [hg] at pz this
      rw [this]
      exact q z w H2 pz gg iz
    | some y =>
      simp only [hg] at pz this
      obtain ⟨y', e2, iy⟩ := this
      rw [e2]
      exact q y y' H2 pz gg iy
theorem s1_kput (i : Nat) {ve ke : Expr} {mv mk' : W D} {mk : Tb → List SV} (hu : X.A.units + 1 < cLine) (h0 : ρ[i]? = some (.dct t)) (hve : EX X E ve ρ mv) (hke : EX X E ke ρ mk') (h : ∀ d, ρ.set i (.dct d) = mk d := by intros; rfl) (hN : X.N[i]? = some x := by rfl)
    (hv : Vis X.env.scope x := by first | exact Or.inl rfl | exact Or.inr (Or.inl rfl) | exact Or.inr (Or.inr rfl)) (hd : (x == ("__debug__" : Str)) = false := by decide) (hcd : (x == ("__classdict__" : Str)) = false := by decide)
    (hs : swapsWith ve (some (.Subscript (.Name x p1) ke pos')) pos.line X.env = pure false := by rfl) : S1 X E (.Assign [.Subscript (.Name x p1) ke pos'] ve pos) ρ mk (do let v ← mv; let k ← mk'; kput t k v) := by
  intro Mb B Hb M σ H P EE D bs o r p en ee
  refine of_ps (ps_dput hu (pe_var hN hv hd hcd) pe_w pe_w hs) ?_
  refine hve Mb M B σ H (fun v => (do let k ← mk'; kput t k v : W Tb) P EE) EE _ o r p (fun d v H1 pd g iv => ?_) (ee.post bs)
  obtain ⟨c, vs, e0, mp, np, l, il⟩ := (r.go o g).dct h0
  have nb : ¬ B c := fun b => np (o.bm c b)
  refine ⟨_, e0, hke Mb M B σ H1 (fun k => (kput t k d : W Tb) P EE) EE _ g.ok (r.go o g) pd (fun k w H2 pk g2 iw => ?_) (ee.post (bs.go g))⟩
  have l2 : H2 c = some (.dK vs) := g2.ext.k c _ l nb
  have pk : kput t k d P EE := pk
  unfold kput at pk
  cases hk : k.key? with
  | none => rw [hk] at pk; exact pk.elim
  | some k' =>
    rw [hk] at pk
    obtain ⟨hl, pk⟩ := pk
    rw [key_is hk iw]
    have il2 := il.mono g2.ext g.ok
    refine ⟨c, _, rfl, .k l2 (by rw [il.len]; exact line_lt hl), ?_⟩
    have kp : Kept M M H2 (L2.upd H2 c (.dK (putK vs k' v))) := .put mp l2 not_imm_dK
    have r3 := ((r.go o g).go g.ok g2).upd (i := i) (sv := .dct (setK t k' d)) (u := .dK (putK vs k' v)) h0 rfl e0 mp l2 not_imm_dK ⟨c, _, rfl, mp, np, upd_same, (il2.put k' (iv.mono g2.ext g.ok)).keep kp⟩
    rw [h] at r3
    exact en _ M σ _ pk (((bs.go g).go g2).upd mp np) (g2.ok.put mp np not_imm_dK) r3
end
end DG

/-! ## DG22 -/
set_option Elab.async false
set_option linter.all false
set_option maxRecDepth 100000
set_option maxHeartbeats 4000000
namespace DG
open PySem PySem.Spec PyProof.Rows L2
/-! ### [.. for k in d], d an own dict that is read on the way -/
def keyD : Key → D
  | .inl i => .int i
  | .inr x => .str x
theorem key_D {K : PySem.W.Frag} {M B : Addr → Prop} {H : Hp} (k : Key) : Is K M B H (keyD k) (kV k) := by cases k <;> rfl
theorem KIs.at {K : PySem.W.Frag} {M B : Addr → Prop} {H : Hp} {t : Tb} {vs : List (Key × V)} (h : KIs K M B H t vs) {kk : Key} {vv : V} : ∀ n : Nat, vs[n]? = some (kk, vv) → ∃ d, (show List (Key × D) from t)[n]? = some (kk, d) := by
  induction h with
  | nil => intro n e; cases e
  | cons _ _ ih =>
    intro n e
    cases n with
    | zero => cases e; exact ⟨_, rfl⟩
    | succ n => exact ih n e
/-- p is locked, its table is t -/
structure Lk (K : PySem.W.Frag) (M B : Addr → Prop) (H : Hp) (p : Addr) (t : Tb) : Prop where
  nb : ¬ B p
  at' : ∃ ob vs, H p = some (.frz ob (.dK vs)) ∧ KIs K M B H t vs
theorem Lk.go {K : PySem.W.Frag} {Mb M B : Addr → Prop} {H H1 : Hp} {p : Addr} {t : Tb} (l : Lk K M B H p t) (o : Ok Mb M B H) (g : Go Mb M B H H1) : Lk K M B H1 p t := by
  obtain ⟨ob, vs, h, i⟩ := l.at'
  exact ⟨l.nb, ob, vs, g.ext.k p _ h l.nb, i.mono g.ext o⟩
section
variable (X : Cx) (E : XK)
def EXL (e : Expr) (i : Nat) (t : Tb) (ρ : List SV) (m : W D) : Prop := ∀ Mb M B σ H P EE Q p, σ[i]? = some (some (.ref p)) → Lk X.K M B H p t → Ok Mb M B H → Rp X.K Mb M B σ H ρ → m P EE → Post X Mb M B H P Q → PostE X E Mb M B H EE → wE X e σ H Q
def EAL (es : List Expr) (i : Nat) (t : Tb) (ρ : List SV) (m : W (List D)) : Prop := ∀ Mb M B σ H P EE Q p, σ[i]? = some (some (.ref p)) → Lk X.K M B H p t → Ok Mb M B H → Rp X.K Mb M B σ H ρ → m P EE → PostL X es.length Mb M B H P Q → PostE X E Mb M B H EE → wA X es σ H Q
end
section
variable {X : Cx} {E : XK} {i : Nat} {t : Tb} {ρ : List SV} {pos : Pos}
theorem xl_ex {e : Expr} {m : W D} (h : EX X E e ρ m) : EXL X E e i t ρ m := fun Mb M B σ H P EE Q p _ _ o r q => h Mb M B σ H P EE Q o r q
theorem xl_get {x : Str} {e : Expr} {m : W D} {p1 : Pos} (hu : X.A.units + 1 < cLine) (he : EX X E e ρ m) (hN : X.N[i]? = some x := by rfl) (hv : Vis X.env.scope x := by first | exact Or.inl rfl | exact Or.inr (Or.inl rfl) | exact Or.inr (Or.inr rfl))
    (hd : (x == ("__debug__" : Str)) = false := by decide) (hcd : (x == ("__classdict__" : Str)) = false := by decide) (hs : NoSl e := by intro _ _; rfl) : EXL X E (.Subscript (.Name x p1) e pos) i t ρ (do let k ← m; kget t k) := by
  intro Mb M B σ H P EE Q p e0 lk o r pm q ee
  refine of_pe (pe_dget hu (pe_var hN hv hd hcd) pe_w hs) ?_
  refine ⟨_, e0, he Mb M B σ H _ EE _ o r pm (fun d v H1 pd g iv => ?_) ee⟩
  obtain ⟨ob, vs, l1, il⟩ := (lk.go o g).at'
  have pd : kget t d P EE := pd
  unfold kget at pd
  cases hk : d.key? with
  | none => rw [hk] at pd; exact pd.elim
  | some k =>
    rw [hk] at pd
    have := il.look k
    cases hg : getK t k with
    | none => simp only [hg] at pd; exact pd.elim
    | some z =>
      simp only [hg] at pd this
      obtain ⟨y, e2, iy⟩ := this
      rw [key_is hk iv]
      exact ⟨p, y, rfl, by rw [← e2]; exact .inl ⟨vs, k, .inr ⟨ob, l1⟩, rfl, rfl⟩, q z y H1 pd g iy⟩
theorem al_nil : EAL X E [] i t ρ (pure []) := fun Mb M B σ H P EE Q p _ _ o r pm q ee => ea_nil Mb M B σ H P EE Q o r pm q ee
theorem al_cons {e : Expr} {es : List Expr} {m : W D} {w : W (List D)} (h : EXL X E e i t ρ m) (hr : EAL X E es i t ρ w) (hs : starEach (e :: es) X.env = (false, eval e X.env) :: starEach es X.env := by rfl) : EAL X E (e :: es) i t ρ (do let x ← m; let xs ← w; pure (x :: xs)) := by
  intro Mb M B σ H P EE Q p e0 lk o r pm q ee
  refine of_pa (pa_cons pe_w pa_w hs) (h Mb M B σ H (fun x => (do let xs ← w; pure (x :: xs) : W (List D)) P EE) EE _ p e0 lk o r pm (fun x vx H1 px g1 ix => ?_) ee)
  exact hr Mb M B σ H1 (fun xs => P (x :: xs)) EE _ p e0 (lk.go o g1) g1.ok (r.go o g1) px (fun xs vs H2 pxs g2 il nl => q (x :: xs) (vx :: vs) H2 pxs (g1.trans g2) ⟨vx, vs, rfl, ix.mono g2.ext g1.ok, il⟩ (by rw [List.length_cons, List.length_cons, nl])) (ee.go g1)
theorem xl_tup {es : List Expr} {x1 : Nat} {m : W (List D)} (h : EAL X E es i t ρ m) (hl : es.length ≤ 1000 := by decide) : EXL X E (.Tuple es x1 pos) i t ρ (do let xs ← m; pure (.tup xs)) := by
  intro Mb M B σ H P EE Q p e0 lk o r pm q ee
  refine of_pe (pe_tupN pa_w) (h Mb M B σ H (fun xs => P (.tup xs)) EE _ p e0 lk o r pm (fun xs vs H1 pxs g1 il nl => ?_) ee)
  exact ⟨line_ok (by rw [nl]; exact Nat.le_trans hl (by decide)), fun a ob n nd => (q.go g1).newT g1.ok pxs il n nd⟩
/-- what the walk over the keys gives -/
theorem ef_keys {k : Nat} {elt : Expr} {scope : Scope} {own : List (Str × Nat)} {x y : Str} {j : Nat} {px py : Pos} {st : D → List SV} {me : D → W D} (G : Cg X E k) (h0 : ρ[i]? = some (.dct t)) (ok : BlkOk X.N X.env.scope scope own)
    (he : ∀ s H0 C cl fp d, EXL (Bk X scope s H0 C cl fp) E0 elt i t (st d) (me d)) (hst : ∀ d, (wipeS (ρ.set i .no) (own.map (·.2))).set j (.d d) = st d := by intros; rfl) (hio : i ∉ own.map (·.2) := by decide) (hij : i ≠ j := by decide) (hjo : j ∈ own.map (·.2) := by decide)
    (hN : X.N[i]? = some x := by rfl) (hv : Vis X.env.scope x := by first | exact Or.inl rfl | exact Or.inr (Or.inl rfl) | exact Or.inr (Or.inr rfl)) (hd : (x == ("__debug__" : Str)) = false := by decide) (hcd : (x == ("__classdict__" : Str)) = false := by decide)
    (hy : X.N[j]? = some y := by rfl) (hyl : ∀ s H0 C cl fp, (Bk X scope s H0 C cl fp).env.scope.names.lookup y = some .local := by intros; rfl) (hf : ∀ z, foldedSetIterable (.Name x px) X.env z = pure z := by intro _; rfl) :
    EF X E (.ListComp elt [⟨.Name y py, .Name x px, [], 0⟩] scope pos) ρ (need (t.length ≤ line) (compW (t.map fun kv => keyD kv.1) fun d => do let z ← me d; pure (some z))) := by
  intro Mb M B σ H P EE Q o r pm q ee
  refine of_pe (pe_lock (pe_lc (te := eAll X scope elt) (tt := tYes) (g := gName j) G.calm G.nd (pi_keys (pe_var hN hv hd hcd)) ok (fun s H0 C cl fp => pg_name G.nd hy (.inl (hyl s H0 C cl fp)) (.inr (hyl s H0 C cl fp))) (fun _ _ _ _ _ => pts_nil) (fun s H0 C cl fp => ⟨fun pins s' σ' H' Q' I h => (h s H0 C cl fp).run pins s' I⟩) hf)) ?_
  obtain ⟨p, vs, e0, mp, np, l, il⟩ := r.dct h0
  obtain ⟨hl, pm⟩ := pm
  have nB : ¬ B p := fun b => np (o.bm p b)
  refine ⟨p, _, l, trivial, fun od => ⟨_, e0, p, od, rfl, .inl ⟨vs, upd_same, fun Dl nD => ?_⟩⟩⟩
  have nDl : Dl ≠ p := fun z => by rw [z, upd_same] at nD; cases nD
  have nD0 : H Dl = none := by rw [upd_ne nDl] at nD; exact nD
  generalize hH1 : L2.upd H p (.frz od (.dK vs)) = H1 at nD
  have h1p : H1 p = some (.frz od (.dK vs)) := by rw [← hH1, upd_same]
  let M1 : Addr → Prop := lessP M p
  have kp1 : Kept M M1 H H1 := ⟨fun a xs n h => ⟨fun z => n z.1, by rw [← hH1, upd_ne (fun z => by rw [z, l] at h; cases h)]; exact h⟩, fun a u im h => by rw [← hH1, upd_ne (fun z => by rw [z, l] at h; cases h; exact not_imm_dK im)]; exact h⟩
  have o1 : Ok Mb M1 B H1 := ⟨o.bm, fun a m => ⟨o.mm a m, fun z => np (z ▸ m)⟩, fun a m => by rw [← hH1, upd_ne m.2]; exact o.tr a m.1, fun a b => by
    obtain ⟨c, n, ds, a1, a2, a3, a4⟩ := o.bg a b
    exact ⟨c, n, ds, by rw [← hH1, upd_ne (fun z => nB (by rw [← z]; exact b))]; exact a1, fun z => a2 z.1, by rw [← hH1, upd_ne (fun z => by rw [z, l] at a3; cases a3)]; exact a3, a4⟩⟩
  have lk1 : Lk X.K M1 B H1 p t := ⟨nB, od, vs, h1p, il.keep kp1⟩
  -- the slots while the table is locked
  have r0 : Rp X.K Mb M1 B σ H1 (ρ.set i .no) := by
    have rn := r.setNo (i := i) (o := some (.ref p))
    rw [set_self e0] at rn
    refine ⟨rn.len, fun jj s e => ?_, rn.dis⟩
    obtain ⟨u, eu, su⟩ := rn.sl jj s e
    have far : s.isOwn = true → ∀ p', u = some (.ref p') → p' ≠ p := fun z p' w1 w2 => by
      by_cases hj : jj = i
      · rw [hj, List.getElem?_set_self (List.getElem?_eq_some_iff.mp h0).1] at e
        cases e
        cases z
      · rw [List.getElem?_set_ne (Ne.symm hj)] at e
        exact hj (r.dis jj i s _ p' e h0 z rfl (by rw [eu, w1]) (by rw [e0, w2]))
    refine ⟨u, eu, ?_⟩
    cases s with
    | no => trivial
    | d d =>
      obtain ⟨x, e2, ix⟩ := su
      exact ⟨x, e2, Is.keep kp1 (fun _ b => b) _ _ ix⟩
    | own es =>
      obtain ⟨p', ws, e2, m', n', l', il'⟩ := su
      exact ⟨p', ws, e2, ⟨m', far rfl p' e2⟩, n', by rw [← hH1, upd_ne (far rfl p' e2)]; exact l', kp1.isL il'⟩
    | dct es =>
      obtain ⟨p', ws, e2, m', n', l', il'⟩ := su
      exact ⟨p', ws, e2, ⟨m', far rfl p' e2⟩, n', by rw [← hH1, upd_ne (far rfl p' e2)]; exact l', il'.keep kp1⟩
  have rw1 := r0.wipe (own.map (·.2))
  have ew : ∀ (vs : List Nat), i ∉ vs → (L2.wipe σ vs)[i]? = some (some (.ref p)) := fun vs => by
    induction vs with
    | nil => exact fun _ => e0
    | cons v vs ih => exact fun n => (List.getElem?_set_ne (fun z => n (by rw [z]; exact List.mem_cons_self))).trans (ih fun z => n (List.mem_cons_of_mem _ z))
  have nM : ¬ M1 Dl := o1.nm nD
  have nBD : ¬ B Dl := o1.nb nM
  have nMbD : ¬ Mb Dl := o1.nmb nM
  let f : D → W (Option D) := fun d => do let z ← me d; pure (some z)
  let ds : List D := t.map fun kv => keyD kv.1
  have lds : ds.length = vs.length := by rw [il.len]; exact List.length_map _
  let M2 : Addr → Prop := fun a => M1 a ∨ a = Dl
  let St : Nat → Hp → Prop := fun n H' => ∃ accD accV, H' Dl = some (.lst accV) ∧ IsL X.K M2 B H' accD accV ∧ Ok Mb M2 B H' ∧ Ext B H1 H' ∧ accD.length ≤ n ∧ compW (ds.drop n) f (fun r => P (accD ++ r)) EE
  refine ⟨fun n m H' => m = ds.length - n ∧ n ≤ ds.length ∧ St n H', ⟨_, rfl, Nat.zero_le _, [], [], upd_same, rfl, o1.newM nD not_imm_lst, Ext.new nD, Nat.le_refl _, pm⟩, fun n m H' ⟨em, hle, accD, accV, hD, il2, o2, e2, la, pc⟩ => ?_⟩
  have k2 : Kept M1 M2 H1 H' := kept_ext o1 e2 nD
  have hp' : H' p = some (.frz od (.dK vs)) := e2.k p _ h1p nB
  have rp2 : Rp X.K Mb M2 B (L2.wipe σ (own.map (·.2))) H' (wipeS (ρ.set i .no) (own.map (·.2))) := rw1.keep k2 (fun _ m => .inl m) fun a m n => by
    obtain ⟨u, hu, _⟩ := o1.tr a m
    rw [hu]
    exact e2.k a u hu fun b => n (o1.bm a b)
  by_cases hi : n < ds.length
  · refine .inr ⟨⟨hp', by omega⟩, fun H' => St (n + 1) H', fun H' hs' => ⟨ds.length - (n + 1), by omega, rfl, hi, hs'⟩, fun u H3 yy => ?_⟩
    obtain ⟨rfl, kk, vv, ek, rfl⟩ := yy
    have hd : ds[n] = keyD kk := by
      obtain ⟨d, e⟩ := il.at n ek
      have : ds[n]? = some (keyD kk) := by show (t.map _)[n]? = _; rw [List.getElem?_map, e]; rfl
      rw [List.getElem?_eq_getElem hi] at this
      exact Option.some.inj this
    have pc' : f ds[n] (fun o => compW (ds.drop (n + 1)) f (fun xs => P (accD ++ (o.toList ++ xs))) EE) (fun _ => False) := by
      rw [List.drop_eq_getElem_cons hi] at pc
      exact pc
    rw [hd] at pc'
    refine ⟨wipe_same .set fun z hz => by rw [List.mem_singleton.mp hz]; exact hjo, ?_⟩
    intro s H0 C cl fp
    have r3 := rp2.setD (i := j) (key_D kk)
    rw [hst] at r3
    have lk2 : Lk X.K M2 B H3 p t := ⟨nB, od, vs, hp', (il.keep kp1).keep k2⟩
    refine he s H0 C cl fp _ Mb M2 B _ H3 (fun z => compW (ds.drop (n + 1)) f (fun xs => P (accD ++ ((some z).toList ++ xs))) EE) (fun _ => False) _ p ((List.getElem?_set_ne (Ne.symm hij)).trans (ew _ hio)) lk2 o2 r3 pc' (fun z v H5 pz g5 iz => ?_) fun _ _ z => z.elim
    have h5 : H5 Dl = some (.lst accV) := g5.ext.k _ _ hD nBD
    have kp : Kept M2 M2 H5 (L2.upd H5 Dl (.lst (accV ++ [v]))) := .put (.inr rfl) h5 not_imm_lst
    refine ⟨accV, h5, by rw [il2.len]; exact line_lt (by have : ds.length = t.length := List.length_map _; omega), accD ++ [z], accV ++ [v], upd_same, kp.isL ((il2.mono g5.ext o2).append (.one iz)), g5.ok.put (.inr rfl) nMbD not_imm_lst, ⟨fun a u hu nb => ?_, fun a q c ba hq nc => ?_⟩, by rw [List.length_append]; exact Nat.succ_le_succ la, ?_⟩
    · rw [upd_ne (ne_of_none hu nD)]
      exact g5.ext.k a u (e2.k a u hu nb) nb
    · rw [upd_ne (ne_of_none hq nD)]
      exact (e2.trans g5.ext).b a q c ba hq nc
    · have e : (fun r => P (accD ++ [z] ++ r)) = fun xs => P (accD ++ ((some z).toList ++ xs)) := by
        funext r
        rw [List.append_assoc]
        rfl
      rw [e]
      exact pz
  · have ei : n = ds.length := by omega
    have pc' : P (accD ++ []) := by
      rw [List.drop_of_length_le (by omega)] at pc
      exact pc
    rw [List.append_nil] at pc'
    refine .inl ⟨⟨hp', by omega⟩, hp', ?_⟩
    refine q accD Dl accV _ pc' ⟨⟨fun a u hu nb => ?_, fun a c n' ba ha hn => ?_⟩, ⟨o.bm, o.mm, fun a m => ?_, fun a b => ?_⟩⟩ nD0 ((upd_ne nDl).trans hD) (IsL.off hp' (fun _ z => by cases z) (fun _ z => by cases z) (fun a m => ?_) _ _ il2)
    · by_cases z : a = p
      · rw [z, l] at hu
        cases hu
        rw [z, upd_same]
      · rw [upd_ne z]
        exact e2.k a u (by rw [← hH1, upd_ne z]; exact hu) nb
    · have z : a ≠ p := fun z => nB (by rw [← z]; exact ba)
      rw [upd_ne z]
      exact e2.b a c n' ba (by rw [← hH1, upd_ne z]; exact ha) hn
    · by_cases z : a = p
      · exact ⟨_, by rw [z, upd_same], not_imm_dK⟩
      · rw [upd_ne z]
        exact o2.tr a (.inl ⟨m, z⟩)
    · obtain ⟨c, n', es, a1, a2, a3⟩ := o2.bg a b
      have z : a ≠ p := fun z => nB (by rw [← z]; exact b)
      have zc : c ≠ p := fun z => by rw [z, hp'] at a3; cases a3.1
      exact ⟨c, n', es, by rw [upd_ne z]; exact a1, fun m => a2 (.inl ⟨m, zc⟩), by rw [upd_ne zc]; exact a3.1, a3.2⟩
    · rcases m with m | m
      · by_cases z : a = p
        · exact .inr z
        · exact .inl (.inl ⟨m, z⟩)
      · exact .inl (.inr m)
/-- a, b = x, y where a name is a cell: the pair is made and taken apart -/
theorem s1_pc2 {S T : Type} (i j : Nat) {x y : Str} {a b : Expr} {e1 : S → SV} {e2 : T → SV} {ma : W S} {mb : W T} {mk : S × T → List SV} {px py pt : Pos} {kt k2 pt2} (hc : X.calm = true) (hNd : X.N.Nodup) (ha : EM X E a ρ e1 ma) (hb : EM X E b ρ e2 mb)
    (h : ∀ x y, (ρ.set i (e1 x)).set j (e2 y) = mk (x, y) := by intros; rfl) (hi : X.N[i]? = some x := by rfl) (hj : X.N[j]? = some y := by rfl) (hij : i ≠ j := by decide)
    (hx : Loc X.env.scope x := by first | exact .inl rfl | exact .inr rfl) (hy : Loc X.env.scope y := by first | exact .inl rfl | exact .inr rfl) (hfx : X.fn x = true ∨ X.env.scope.names.lookup x = some .local := by first | exact .inl rfl | exact .inr rfl) (hfy : X.fn y = true ∨ X.env.scope.names.lookup y = some .local := by first | exact .inl rfl | exact .inr rfl)
    (hw : swappedStores [.Tuple [.Name x px, .Name y py] kt pt] (.Tuple [a, b] k2 pt2) X.env = pure none := by rfl)
    (hs : swapsWithSole [.Tuple [.Name x px, .Name y py] kt pt] (.Tuple [a, b] k2 pt2) pos.line X.env = pure false := by rfl)
    (h1 : (assignEach [.Tuple [.Name x px, .Name y py] kt pt] X.env).map (·.2) = [assign (.Tuple [.Name x px, .Name y py] kt pt) X.env] := by rfl)
    (hn : (assignEach [.Name x px, .Name y py] X.env).length = 2 := by rfl) (hst : (assignEach [.Name x px, .Name y py] X.env).findIdx? (·.1) = none := by rfl)
    (g1 : (assignEach [.Name x px, .Name y py] X.env).map (·.2) = assign (.Name x px) X.env :: (assignEach [.Name y py] X.env).map (·.2) := by rfl) (g2 : (assignEach [.Name y py] X.env).map (·.2) = assign (.Name y py) X.env :: (assignEach [] X.env).map (·.2) := by rfl)
    (st1 : starEach [a, b] X.env = (false, eval a X.env) :: starEach [b] X.env := by rfl) (st2 : starEach [b] X.env = (false, eval b X.env) :: starEach [] X.env := by rfl) :
    S1 X E (.Assign [.Tuple [.Name x px, .Name y py] kt pt] (.Tuple [a, b] k2 pt2) pos) ρ mk (do let x ← ma; let y ← mb; pure (x, y)) := by
  intro Mb B Hb M σ H P EE D bs o r p en ee
  refine of_ps (ps_asg (pe_tupN (pa_cons pe_w (pa_cons pe_w pa_nil st2) st1)) (pg_tup hc (pgs_cons (pg_name hNd hi hx hfx) (pgs_cons (pg_name hNd hj hy hfy) pgs_nil g2) g1) hn hst) hs hw h1) ?_
  refine ha Mb M B σ H (fun x => ((do let y ← mb; pure (x, y)) : W (S × T)) P EE) EE _ o r p (fun s v M1 H1 p1 n1 s1 q1 => ?_) (ee.post bs)
  refine hb Mb M1 B σ H1 (fun y => P (s, y)) EE _ n1.ok (r.newM o n1) p1 (fun t w M2 H2 p2 n2 s2 q2 => ?_) (ee.post (bs.newM o n1))
  refine ⟨by show 2 ≤ sizeLine; decide, fun c ob nc nd => ?_⟩
  have n12 := n1.trans o n2
  have n3 : NewM Mb M2 B H2 M2 (L2.upd H2 c (.frz ob (.tup [v, w]))) := .of_go (Go.new n12.ok nc)
  have n13 := n12.trans o n3
  have sv := (s1.newM n1.ok n2).newM n12.ok n3
  have sw := s2.newM n12.ok n3
  have r3 := (r.newM o n13).setSV (i := i) sv (own_apart r q1 i)
  have r4 := r3.setSV (i := j) sw fun z jj ss e hh hne => by
    obtain ⟨p2', e2', np2⟩ := q2 z
    by_cases q : i = jj
    · subst q
      intro xx
      have hii : i < ρ.length := by have := (List.getElem?_eq_some_iff.mp e).1; rwa [List.length_set] at this
      rw [List.getElem?_set_self (by rw [r.len]; exact hii)] at xx
      rw [List.getElem?_set_self hii] at e
      cases e
      obtain ⟨p1', e1', np1⟩ := q1 hh
      rw [e1', e2'] at xx
      cases xx
      rw [e1'] at s1
      obtain ⟨u, hu⟩ := slot_at hh s1
      rw [np2] at hu
      cases hu
    · intro xx
      rw [List.getElem?_set_ne q] at xx e
      exact own_apart (r.newM o n1) q2 j z jj ss e hh hne xx
  rw [h] at r4
  exact ⟨c, [v, w], rfl, .inl (.inr ⟨ob, upd_same⟩), rfl, v, [w], rfl, w, [], rfl, rfl, en (s, t) M2 _ _ p2 (bs.newM o n13) n13.ok r4⟩
theorem hu1 {n : Nat} (h : n + 64 < cLine) : n + 1 < cLine := by omega
/-- return [.. for k in d] -/
theorem sf_keys {e : Expr} {rest : List Stmt} {m : W (List D)} (he : EF X E e ρ m) : SF X E (.Return (some e) pos :: rest) ρ m := by
  intro Mb B Hb M σ H P EE D bs o r p er ee
  refine of_pss (pss_cons (ps_ret pe_w) (pss_never)) ?_
  refine he Mb M B σ H P EE _ o r p (fun ds q ws H1 pd g1 n l il => ?_) (ee.post bs)
  exact er ds q ws H1 pd (bs.go g1).hb g1.ok.down (bs.no o n) l (il.less fun a m => m.elim (fun z => .inl (o.mm a z)) .inr)
end
end DG

/-! ## DG23 -/
set_option Elab.async false
set_option linter.all false
set_option maxRecDepth 100000
set_option maxHeartbeats 4000000
namespace DG
open PySem PySem.Spec PyProof PyProof.Rows L2 HotX L2H
/-! ### ends of walks while an exception is handled -/
section
variable {prog : Program} {w : World} {A : Around} {E : Value → Shared → Prop} {s : Shared}
/-- the iterator is another object than the exception -/
theorem hot_far {x1 it : Addr} {h : Heap} {o : Obj} {a b : Value} (hot : HotAt A x1 h) (ho : h.get? it = some o) (hd : o.data = .fields #[a, b]) : x1 ≠ it := fun z => by
  obtain ⟨_, o1, vs, g, d, c⟩ := hot
  rw [z, ho] at g
  cases g
  rw [hd] at d
  cases d
  simp at c
theorem hot_upd {x1 it : Addr} {h : Heap} {f : Obj → Obj} (hot : HotAt A x1 h) (n : x1 ≠ it) : HotAt A x1 (h.update it f) := by
  obtain ⟨hh, o1, vs, g, d, c⟩ := hot
  exact ⟨hh, o1, vs, (Heap.get?_update_other _ _ (Ne.symm n)).trans g, d, c⟩
theorem hot_push {x1 : Addr} {h : Heap} {o : Obj} (hot : HotAt A x1 h) : HotAt A x1 (h.push o) := by
  obtain ⟨hh, o1, vs, g, d, c⟩ := hot
  exact ⟨hh, o1, vs, Heap.get?_push_of_some _ g, d, c⟩
theorem hot_keep {x1 : Addr} {h h' : Heap} (hot : HotAt A x1 h) (k : ∀ o, h.get? x1 = some o → h'.get? x1 = some o) : HotAt A x1 h' := by
  obtain ⟨hh, o1, vs, g, d, c⟩ := hot
  exact ⟨hh, o1, vs, k _ g, d, c⟩
theorem nextL_hot {it l x1 : Addr} {i : Nat} {items : Array Value} {Q : Option Value → Shared → Prop} (hot : HotAt A x1 s.heap) (hit : s.heap.IsListIter it l i) (hl : s.heap.IsList l items) (hx : items[i]? = none)
    (hQ : ∀ h', (∀ b o, b ≠ it → s.heap.get? b = some o → h'.get? b = some o) → Q none { s with heap := h' }) : wpAny (model prog w) A (pyNext (.ref it)) Q E s := by
  obtain ⟨io, hio, hcls, hdat⟩ := id hit
  obtain ⟨lo, hlo, _, ln, hldat⟩ := hl
  have far := hot_far hot hio hdat
  unfold pyNext
  refine wpAny_bind <| wpAny_attempt <| wpAny_callSpecial?_slot (name := Str.ofString "__next__") hit.typeIs slot_listiter_next <| wpAny_call_entry slot_listiter_next hit.typeIs entry_listiter_next ?_ (args_listiter_next _)
  show wpAny _ _ (field (Value.ref it) 0 >>= _) _ _ s
  refine wpAny_bind <| wpAny_field hio hdat (x := .ref l) rfl ?_
  show wpAny _ _ (if (Value.ref l == .none) = true then _ else _) _ _ s
  rw [if_neg fun z : (Value.ref l == Value.none) = true => Bool.false_ne_true z]
  show wpAny _ _ (field (Value.ref it) 1 >>= _) _ _ s
  refine wpAny_bind <| wpAny_field hio hdat (x := .int i 0) rfl ?_
  show wpAny _ _ (seqItems? (Value.ref l) >>= _) _ _ s
  refine wpAny_bind <| wpAny_seqItems hlo hldat ?_
  simp only [Int.toNat_natCast, hx]
  refine wpAny_bind <| wpAny_rule <| wpAny_bind <| wpAny_setField hio hdat (by simp) ?_
  show wpAny _ _ (newExc (Value.type "StopIteration") [] >>= _) _ _ _
  refine wpAny_bind ?_
  simp only [newExc, newTuple]
  refine wpAny_bind <| wpAny_newObj_type ?_ (by size_fits)
  refine wpAny_bind (m := firstArgMember _ _) <| wpAny_of_eq (a := Value.none) (by first | rfl | (simp only [firstArgMember]; rfl)) ?_
  refine wpAny_newObj_type ?_ <| by size_fits
  have hot2 := hot_push (o := { cls := .type "tuple", data := .seq #[] }) (hot_upd (f := Obj.mapFields (·.setIfInBounds 0 .none)) hot far)
  refine raiseNew_hot (hot_push hot2) (Nat.ne_of_lt (by obtain ⟨_, o1, vs, g, _, _⟩ := hot2; exact Heap.lt_size g)) (Heap.get?_push_size _ rfl) rfl (by first | (simp; done) | (simp; omega) | (simp only [Array.size_append]; simp; omega)) ?_
  refine wpAny_bind <| wpAny_isInstance (T := "StopIteration") (b := true) ⟨_, Heap.get?_update_self _ (Heap.get?_push_size _ rfl) rfl, rfl⟩ isSubtype_stop ?_
  refine wpAny_pure <| hQ _ fun b o hb e => ?_
  have g1 : ((s.heap.update it (Obj.mapFields (·.setIfInBounds 0 .none))).push { cls := .type "tuple", data := .seq #[] }).get? b = some o := Heap.get?_push_of_some _ ((Heap.get?_update_other _ _ (Ne.symm hb)).trans e)
  exact (Heap.get?_update_other _ _ (Nat.ne_of_gt (Heap.lt_size g1))).trans (Heap.get?_push_of_some _ g1)
theorem nextT_hot {it t x1 : Addr} {i : Nat} {items : Array Value} {Q : Option Value → Shared → Prop} (hot : HotAt A x1 s.heap) (hit : IsTupIter s.heap it t i) (ht : IsTup s.heap t items) (hx : items[i]? = none)
    (hQ : ∀ h', (∀ b o, b ≠ it → s.heap.get? b = some o → h'.get? b = some o) → Q none { s with heap := h' }) : wpAny (model prog w) A (pyNext (.ref it)) Q E s := by
  obtain ⟨io, hio, hcls, hdat⟩ := id hit
  obtain ⟨lo, hlo, _, ln, hldat⟩ := ht
  have far := hot_far hot hio hdat
  unfold pyNext
  refine wpAny_bind <| wpAny_attempt <| wpAny_callSpecial?_slot (name := Str.ofString "__next__") hit.typeIs slot_tupleiter_next <| wpAny_call_entry slot_tupleiter_next hit.typeIs entry_tupleiter_next ?_ (args_tupleiter_next _)
  show wpAny _ _ (field (Value.ref it) 0 >>= _) _ _ s
  refine wpAny_bind <| wpAny_field hio hdat (x := .ref t) rfl ?_
  show wpAny _ _ (if (Value.ref t == .none) = true then _ else _) _ _ s
  rw [if_neg fun z : (Value.ref t == Value.none) = true => Bool.false_ne_true z]
  show wpAny _ _ (field (Value.ref it) 1 >>= _) _ _ s
  refine wpAny_bind <| wpAny_field hio hdat (x := .int i 0) rfl ?_
  show wpAny _ _ (seqItems? (Value.ref t) >>= _) _ _ s
  refine wpAny_bind <| wpAny_seqItems hlo hldat ?_
  simp only [Int.toNat_natCast, hx]
  refine wpAny_bind <| wpAny_rule <| wpAny_bind <| wpAny_setField hio hdat (by simp) ?_
  show wpAny _ _ (newExc (Value.type "StopIteration") [] >>= _) _ _ _
  refine wpAny_bind ?_
  simp only [newExc, newTuple]
  refine wpAny_bind <| wpAny_newObj_type ?_ (by size_fits)
  refine wpAny_bind (m := firstArgMember _ _) <| wpAny_of_eq (a := Value.none) (by first | rfl | (simp only [firstArgMember]; rfl)) ?_
  refine wpAny_newObj_type ?_ <| by size_fits
  have hot2 := hot_push (o := { cls := .type "tuple", data := .seq #[] }) (hot_upd (f := Obj.mapFields (·.setIfInBounds 0 .none)) hot far)
  refine raiseNew_hot (hot_push hot2) (Nat.ne_of_lt (by obtain ⟨_, o1, vs, g, _, _⟩ := hot2; exact Heap.lt_size g)) (Heap.get?_push_size _ rfl) rfl (by first | (simp; done) | (simp; omega) | (simp only [Array.size_append]; simp; omega)) ?_
  refine wpAny_bind <| wpAny_isInstance (T := "StopIteration") (b := true) ⟨_, Heap.get?_update_self _ (Heap.get?_push_size _ rfl) rfl, rfl⟩ isSubtype_stop ?_
  refine wpAny_pure <| hQ _ fun b o hb e => ?_
  have g1 : ((s.heap.update it (Obj.mapFields (·.setIfInBounds 0 .none))).push { cls := .type "tuple", data := .seq #[] }).get? b = some o := Heap.get?_push_of_some _ ((Heap.get?_update_other _ _ (Ne.symm hb)).trans e)
  exact (Heap.get?_update_other _ _ (Nat.ne_of_gt (Heap.lt_size g1))).trans (Heap.get?_push_of_some _ g1)
/-- (a, b, ..) = a tuple, while an exception is handled -/
theorem take_apart {t x1 : Addr} {items : Array Value} {ts : List (Bool × (Value → Sem Unit))} {Q : Unit → Shared → Prop} (hot : HotAt A x1 s.heap) (ht : IsTup s.heap t items) (hn : ts.length = items.size) (hst : ts.findIdx? (·.1) = none)
    (h : ∀ h', (∀ b o, s.heap.get? b = some o → h'.get? b = some o) → wpAny (model prog w) A (assignInOrder (ts.map (·.2)) items.toList) Q E { s with heap := h' }) : wpAny (model prog w) A (unpack (.ref t) ts) Q E s := by
  have lt : t ≠ s.heap.objs.size := by
    obtain ⟨o, ho, _⟩ := ht
    exact Nat.ne_of_lt <| Heap.lt_size ho
  unfold unpack
  rw [hn, hst]
  refine wpAny_bind <| wpAny_holding ?_
  unfold unpackItems
  refine wpAny_bind ?_
  unfold notIterableAtAll
  refine wpAny_bind <| wpAny_specialOf ht.typeIs slot_tuple_iter.lookup <| wpAny_pure ?_
  simp only [Bool.false_eq_true, if_false]
  refine wpAny_bind <| wpAny_holding <| iter_tuple ht <| wpAny_bind <| wpAny_holding <| draw_tuple lt items.size 0 _ _ ⟨_, Heap.get?_push_size _ rfl, rfl, rfl⟩ (ht.push _) (by omega) fun h1 hit1 sb1 => ?_
  rw [List.drop_zero, List.take_of_length_le (show items.toList.length ≤ items.size by simp)]
  rw [if_neg <| by simp]
  have ht1 : IsTup h1 t items := (ht.push _).extBut sb1.extBut lt
  have hot1 : HotAt A x1 h1 := hot_keep hot fun o e => sb1.extBut x1 o (Nat.ne_of_lt (Heap.lt_size e)) (Heap.get?_push_of_some _ e)
  refine wpAny_bind <| wpAny_holding <| nextT_hot hot1 hit1 ht1 (by simp) fun h2 k2 => ?_
  simp only [Option.isSome_none, Bool.false_eq_true, if_false]
  exact wpAny_pure <| h h2 fun b o e => k2 b o (Nat.ne_of_lt (Heap.lt_size e)) (sb1.extBut b o (Nat.ne_of_lt (Heap.lt_size e)) (Heap.get?_push_of_some _ e))
end
/-! ### contexts that bear a handled exception -/
def HotB (X : Cx) : Prop := ∀ (pins : List (Addr × Obj)) (σ : L2.St) (H : Hp) (s : Shared), Inv X pins σ H s → ∃ x1, HotAt X.A x1 s.heap
theorem HotB.of {X : Cx} (c : HotC X) : HotB X := fun _ _ _ _ I => c.at I
theorem pg_tupH {X : Cx} {es : List Expr} {k : Nat} {t : TGs} {n : Nat} {pos : Pos} (hc : HotB X) (h : PGs X es t) (hn : (assignEach es X.env).length = n := by rfl) (hst : (assignEach es X.env).findIdx? (·.1) = none := by rfl) : PG X (.Tuple es k pos) (gTup X.K n t) := by
  refine ⟨fun pins s σ H v u Q I r hw => ?_⟩
  obtain ⟨a, xs, rfl, hq, hl, hw⟩ := hw
  cases r
  obtain ⟨its, rv, ht, hz⟩ := I.tuple hq
  obtain ⟨x1, hot⟩ := hc _ _ _ _ I
  rw [assign_Tuple]
  refine wpAny_bind <| wpAny_standAt <| take_apart hot ht (by simp [hn, ← hl, rv.length]) hst fun h' hx => ?_
  exact h.run pins _ σ H xs _ Q (I.kept (t' := s.toks) hx) (by simpa using rv) hw
end DG

/-! ## DG24 -/
set_option Elab.async false
set_option linter.all false
set_option maxRecDepth 100000
set_option maxHeartbeats 4000000
namespace DG
open PySem PySem.Spec PyProof PyProof.Rows L2 HotX L2H
/-! ### a comprehension over a list while an exception is handled -/
section
variable {X : Cx}
theorem pe_lcL {elt tg iter : Expr} {ifs : List Expr} {scope : Scope} {own : List (Str × Nat)} {pos : Pos} {ti : TE} {g : TG} {tt : TT} {te : TE} (hot : HotC X) (hs : X.stack = X.env :: X.outer) (hfr : X.env.frame = some X.env.locals) (nd : X.N.Nodup) (hi : PE X iter ti) (ok : BlkOk X.N X.env.scope scope own)
    (hg : ∀ s H C cl fp, HotB (Bk X scope s H C cl fp) → PG (Bk X scope s H C cl fp) tg g) (ht : ∀ s H C cl fp, PTs (Bk X scope s H C cl fp) ifs tt) (he : ∀ s H C cl fp, PE (Bk X scope s H C cl fp) elt te)
    (hf : ∀ x, foldedSetIterable iter X.env x = pure x := by intro _; rfl) : PE X (.ListComp elt [⟨tg, iter, ifs, 0⟩] scope pos) (tLc (iList X.K ti) g tt te (own.map (·.2))) := by
  refine ⟨fun pins s σ H Q I0 want => ?_⟩
  rw [eval_ListComp]
  have frees : ∀ y ∈ scope.names, y.2 = .free → ∃ c, X.env.cells.lookup y.1 = some c := fun y my e => by
    rcases ok.free y my e with k | k <;> exact I0.ok.has _ (by first | exact .inl k | exact .inr k)
  refine wpAny_comprehension_free (use := none) rfl hf (closure_ok frees) ok.kind (fun y my e => (ok.uniq y my).trans (by rw [e])) <| thn (hi.run pins s σ H _ I0 want) fun v sa ⟨x, Ha, Ia, rx, a, ex, ⟨xs0, sq0⟩, q⟩ => ?_
  subst ex
  cases rx
  obtain ⟨its0, rv0, p0, _⟩ := Ia.list sq0
  refine wpAny_pyIter_list p0.isList <| wpAny_newObj_type (newEnv_comp ?_) (show 0 ≤ sizeLine by decide)
  -- the iterator, the new list
  generalize hit : sa.heap.objs.size = it
  generalize hsb : ({ sa with heap := sa.heap.push { cls := .type "list_iterator", data := .fields #[.ref a, .int 0 0] } } : Shared) = sb
  have kab : ∀ b o, sa.heap.get? b = some o → sb.heap.get? b = some o := fun b o e => by rw [← hsb]; exact Heap.get?_push_of_some _ e
  have Ib : Inv X pins σ Ha sb := by rw [← hsb]; exact Ia.kept (t' := sa.toks) fun b o e => Heap.get?_push_of_some _ e
  have stb : sb.heap.IsListIter it a 0 := by rw [← hsb, ← hit]; exact ⟨_, Heap.get?_push_size _ rfl, rfl, rfl⟩
  have fpb : FpOk X pins Ha it := by rw [← hit]; exact Ia.fpOk (Nat.le_refl _) (Ia.hok.fresh (Nat.le_refl _))
  generalize hD : sb.heap.objs.size = D
  have freeD : Ha D = none := Ib.hok.fresh (Nat.le_of_eq hD)
  obtain ⟨W, ⟨m0, w0⟩, turn⟩ := q D freeD
  generalize hsc : ({ sb with heap := sb.heap.push { cls := .type "list", data := .seq ([] : List Value).toArray } } : Shared) = sc
  have heapc : sc.heap = sb.heap.push { cls := .type "list", data := .seq ([] : List Value).toArray } := by rw [← hsc]
  generalize hHc : L2.upd Ha D (.lst []) = Hc at w0
  have Ic : Inv X pins σ Hc sc := by
    rw [← hsc, ← hHc]
    exact Ib.laid (t' := sb.toks) (fun b o e => Heap.get?_push_of_some _ e) (Nat.le_of_eq hD) ⟨Nat.zero_le _, [], 0, .nil, by rw [← hD]; exact Heap.get?_push_size _ rfl⟩
  have ltit : it < sb.heap.objs.size := by obtain ⟨o, e, _⟩ := stb; exact Heap.lt_size e
  have freeIt : Hc it = none := by rw [← hHc, upd_ne (by rw [← hD]; exact Nat.ne_of_lt ltit)]; exact fpb.1
  have fpc : ∀ b ∈ [it], FpOk X pins Hc b ∧ b < sc.heap.objs.size := fun b mb => by
    rw [List.mem_singleton.mp mb]
    exact ⟨⟨freeIt, fpb.2⟩, by rw [heapc, Heap.size_push]; exact Nat.lt_succ_of_lt ltit⟩
  have stc : sc.heap.IsListIter it a 0 := stb.at fun o e => by rw [heapc]; exact Heap.get?_push_of_some _ e
  have Id0 := block_start Ic ok nd fpc
  have hG : HotB (X.blk sc Hc scope (compEnvC scope (cellsFrom (sc.heap.objs.size + 1) scope.names (cloFrom X.env.cells scope.names [])) sc.heap.objs.size X.env) [it]) → PG (X.blk sc Hc scope (compEnvC scope (cellsFrom (sc.heap.objs.size + 1) scope.names (cloFrom X.env.cells scope.names [])) sc.heap.objs.size X.env) [it]) tg g := hg sc Hc sc.heap.objs.size (cellsFrom (sc.heap.objs.size + 1) scope.names (cloFrom X.env.cells scope.names [])) [it]
  have hT : PTs (X.blk sc Hc scope (compEnvC scope (cellsFrom (sc.heap.objs.size + 1) scope.names (cloFrom X.env.cells scope.names [])) sc.heap.objs.size X.env) [it]) ifs tt := ht sc Hc sc.heap.objs.size (cellsFrom (sc.heap.objs.size + 1) scope.names (cloFrom X.env.cells scope.names [])) [it]
  have hE : PE (X.blk sc Hc scope (compEnvC scope (cellsFrom (sc.heap.objs.size + 1) scope.names (cloFrom X.env.cells scope.names [])) sc.heap.objs.size X.env) [it]) elt te := he sc Hc sc.heap.objs.size (cellsFrom (sc.heap.objs.size + 1) scope.names (cloFrom X.env.cells scope.names [])) [it]
  show codeAny _ _ (.compStart (.ListComp elt [⟨tg, iter, ifs, 0⟩] scope pos) 0 (.ref it) (.ref D) (compEnvC scope (cellsFrom (sc.heap.objs.size + 1) scope.names (cloFrom X.env.cells scope.names [])) sc.heap.objs.size X.env)) (compPost (model X.prog X.w) X.A X.xe none _ (.ref D) sc.heap.objs.size) { sc with heap := pushCells (sc.heap.push { cls := .type "dict", data := .dict #[] }) scope.names }
  generalize hen : compEnvC scope (cellsFrom (sc.heap.objs.size + 1) scope.names (cloFrom X.env.cells scope.names [])) sc.heap.objs.size X.env = en at Id0 hG hT hE ⊢
  have locs : en.locals = sc.heap.objs.size := by rw [← hen]; rfl
  generalize hsd : ({ sc with heap := pushCells (sc.heap.push { cls := .type "dict", data := .dict #[] }) scope.names } : Shared) = sd at Id0 ⊢
  have std : sd.heap.IsListIter it a 0 := stc.at fun o e => by rw [← hsd]; exact pushCells_keeps _ _ _ _ (Heap.get?_push_of_some _ e)
  -- the exception stands in the block
  have hotK : HotB (X.blk sc Hc scope en [it]) := fun pins' σ' H' s' J => by
    obtain ⟨p, ⟨hh, v1, e1, c1⟩, mp⟩ := hot
    have pa := Ia.pin p (List.mem_append_left _ mp)
    have pc := Ic.pin p (List.mem_append_left _ mp)
    refine ⟨p.1, hh, p.2, v1, J.base.keep p.1 p.2 pc.1 pc.2.1 (fun z => ?_) (fun z => ?_), e1, c1⟩
    · have z : p.1 ∈ frs X.stack := z
      rw [hs] at z
      unfold frs at z
      rw [List.filterMap_cons_some hfr, List.mem_cons] at z
      exact z.elim pc.2.2.1 pc.2.2.2.1
    have : p.1 < it := by rw [← hit]; exact Heap.lt_size pa.1
    exact Nat.ne_of_lt this (List.mem_singleton.mp z)
  have PGk := hG hotK
  have still : ∀ {σ' : L2.St} {H' : Hp} {s' : Shared}, Inv (X.blk sc Hc scope en [it]) [] σ' H' s' → H' it = none → FpOk (X.blk sc Hc scope en [it]) [] H' it := fun {σ' H' s'} J n =>
    ⟨n, (J.ok.exf it List.mem_cons_self).1, J.ok.exfs it List.mem_cons_self, .inl List.mem_cons_self, fun x c e => (J.ok.exf it List.mem_cons_self).2 x c e, fun p mp => absurd (show p ∈ ([] : List (Addr × Obj)) ++ [] from mp) (by simp)⟩
  have loop : codeAny (model X.prog X.w) X.A (.compLoop (.ListComp elt [⟨tg, iter, ifs, 0⟩] scope pos) 0 (.ref it) (.ref D) en) (compPost (model X.prog X.w) X.A X.xe none (fun v s1 => ∃ x H1, Inv X pins σ H1 s1 ∧ RelV x v ∧ Q x H1) (.ref D) sc.heap.objs.size) sd := by
    refine compLoop_any (fun n s' => ∃ i H', Inv (X.blk sc Hc scope en [it]) [] (wipe σ (own.map (·.2))) H' s' ∧ s'.heap.IsListIter it a i ∧ H' it = none ∧ W i n H') ?_ m0 ⟨0, Hc, Id0, std, freeIt, w0⟩
    rintro n se ⟨i, He, Ie, ste, ne, we⟩
    obtain ⟨f0, f1, f2, f3, f4, f5⟩ := still Ie ne
    rcases turn i n He we with ⟨⟨xs, sq, hx⟩, qq⟩ | ⟨⟨xs, x, sq, hx⟩, Nx, hNx, go⟩
    · -- the end
      obtain ⟨its, rv, pl, _⟩ := Ie.list sq
      obtain ⟨x1, hat⟩ := hotK _ _ _ _ Ie
      have hl := rv.length
      refine nextL_hot hat ste pl.isList (by simp; omega) fun h' kb => ?_
      have If : Inv (X.blk sc Hc scope en [it]) [] (wipe σ (own.map (·.2))) He { se with heap := h' } := Ie.turned (t' := se.toks) (fun b o hb e => kb b o hb e) f0 f1 f3 f4 f5
      have back : Inv X pins σ He { se with heap := h' } := Ic.call' (ch := [it]) If.os If.base If.hok If.bare fun b mb => by
        obtain ⟨g, _⟩ := fpc b mb
        exact ⟨g.2.2.2.1, g.2.1, g.2.2.2.2.1, g.2.2.2.2.2⟩
      have nC : He sc.heap.objs.size = none := by rw [← locs]; exact If.free
      obtain ⟨m, hn, _⟩ := If.loc
      refine ⟨m, by rw [← locs]; exact hn, fun h2 sb2 => ?_⟩
      obtain ⟨z0, z1, z2, z3, z4, z5⟩ := Ic.fpOk (Nat.le_refl _) nC
      exact ⟨.ref D, He, back.turned (t' := se.toks) (fun b o hb e => (sb2.2 b hb).trans e) z0 z1 z3 z4 z5, rfl, qq⟩
    · -- a turn
      obtain ⟨its, rv, pl, _⟩ := Ie.list sq
      obtain ⟨u, hu, ru⟩ := rv.get hx
      refine wpAny_pyNext_list_item ste pl.isList (x := u) (by simpa using hu) fun h' st' sb' => ?_
      have If : Inv (X.blk sc Hc scope en [it]) [] (wipe σ (own.map (·.2))) He { se with heap := h' } := Ie.turned (t' := se.toks) (fun b o hb e => (sb'.2 b hb).trans e) f0 f1 f3 f4 f5
      obtain ⟨io, e1, e2, e3⟩ := id st'
      refine go_of (s := { se with heap := h' }) e1 e2 e3 (by decide) ?_
      have Ig := If.pinned (fp := [it]) (fun b mb => by rw [List.mem_singleton.mp mb]; exact still If ne) fun b mb => by rw [List.mem_singleton.mp mb]; exact ⟨io, e1, fun v z => by rw [e3] at z; cases z⟩
      have step := go x He ⟨rfl, fun ys hy => by rw [Ie.list_inj hy sq]; exact hx⟩
      refine thnF (PGk.run _ _ _ He x u _ Ig ru step) fun _ sf ⟨σ2, H2, I2, hw2, q2⟩ => ?_
      refine thnF (hT.run _ sf σ2 H2 _ I2 q2) fun b sg ⟨H3, I3, q3⟩ => ?_
      have fin : ∀ {s' : Shared} {H' : Hp}, Inv (X.blk sc Hc scope en [it]) ([] ++ pinsAt [it] h') σ2 H' s' → Nx H' → ∃ m, m < n ∧ ∃ i H', Inv (X.blk sc Hc scope en [it]) [] (wipe σ (own.map (·.2))) H' s' ∧ s'.heap.IsListIter it a i ∧ H' it = none ∧ W i m H' := fun {s' H'} J nx => by
        obtain ⟨m', lt, w'⟩ := hNx H' nx
        have pin' := J.pin (it, io) (List.mem_append_right _ (List.mem_append_right _ (mem_pinsAt List.mem_cons_self e1)))
        have hl : (wipe σ (own.map (·.2))).length = σ2.length := by rw [← hw2, wipe_length]
        exact ⟨m', lt, i + 1, H', (J.unpinned (pins := [])).weak hl (fun j v e => by rw [← hw2] at e; exact (wipe_some e).1), ⟨io, pin'.1, e2, e3⟩, pin'.2.1, w'⟩
      cases b with
      | false =>
        simp only [Bool.false_eq_true, if_false] at q3 ⊢
        exact fin I3 q3
      | true =>
        simp only [if_true] at q3 ⊢
        refine thnF (hE.run _ sg σ2 H3 _ I3 q3) fun z sh ⟨y, H4, I4, r4, acc, hD4, z4, nx⟩ => ?_
        exact app_ok (X := X.blk sc Hc scope en [it]) I4 hD4 z4 r4 fun s5 I5 => fin I5 nx
  exact codeAny_compStart_list loop <| wpAny_pyIter_listiter std loop
end
end DG

/-! ## DG25 -/
set_option Elab.async false
set_option linter.all false
set_option maxRecDepth 100000
set_option maxHeartbeats 4000000
namespace DG
open PySem PySem.Spec PyProof PyProof.Rows L2 HotX L2H
/-! ### a call of a def that a slot holds -/
def tCallLS (i : Nat) (f : Addr) (sp : Sp) (E : L2.St → XK) (t : TA) : TE := fun σ H Q => σ[i]? = some (some (.ref f)) ∧ t σ H fun vs H1 => sp vs H1 Q (E σ)
theorem pe_callLS {X : Cx} {CX : CXT} {k i : Nat} {f : Addr} {fd : FuncData} {ps : List Str} {sp : Sp} {E : L2.St → XK} {x : Str} {p pos : Pos} {e : Expr} {es : List Expr} {t : TA} (F : FnOk X.prog X.w X.K X.mg X.base CX k f fd ps sp) (hr : Room k X.A) (hN : X.N[i]? = some x) (hv : Vis X.env.scope x)
    (hk : PySem.W.keepIn X.K (.ref f) = true) (hb : Binds X.K fd ps []) (hx : ∀ σ, PassesAt CX X σ (E σ)) (ha : PA X (e :: es) t) (hdb : (x == ("__debug__" : Str)) = false) (hcd : (x == ("__classdict__" : Str)) = false)
    (he : starEach (e :: es) X.env = (false, eval e X.env) :: starEach es X.env) (hpl : (backTo pos (starEach es X.env)).any (·.1) = false) : PE X (.Call (.Name x p) (e :: es) [] pos) (tCallLS i f sp E t) := by
  refine ⟨fun pins s σ H Q I ⟨hs, want⟩ => ?_⟩
  refine wpAny_Call_Name_kw <| thn ((pe_var (pos := p) hN hv hdb hcd).run pins s σ H (fun v H1 => v = .ref f ∧ H1 = H) I ⟨.ref f, hs, rfl, rfl⟩) fun u s1 ⟨v, H1, I1, r1, q1⟩ => ?_
  obtain ⟨ev, eH⟩ := q1
  subst ev eH
  cases r1
  refine PySem.W.callWith_K (h₀ := X.base) I.ok.mod.kin hk (thn (ha.run pos pins s1 σ _ _ I1 want) fun us s2 ⟨vs, H2, I2, r, q⟩ => ⟨I2.kIn, run_fnS F hr hb (hx σ) I2 r q⟩) he hpl
/-! ### the exceptions that the laws ask about -/
def errNames : List Str := ["InvalidRule", "InvalidLog", "InvalidIndex", "InvalidKind", "InvalidSizes", "InvalidTraffic", "InvalidPause", "InvalidGate", "InvalidDecisions", "InvalidLength", "InvalidMessage", "NothingToUndo"]
/-- the class x, and what isinstance says of its instances -/
structure ErrC (K : PySem.W.Frag) (mg : Str → Option Value) (x : Str) : Prop where
  ex : ∃ C, mg x = some (.ref C) ∧ L2.ExcC K C ∧ (∃ cd, mg "DedupError" = some cd ∧ PySem.W.exmOne K (.ref C) cd = some true) ∧ (∀ y ∈ errNames, ∃ Cy, mg y = some (.ref Cy) ∧ PySem.W.kitOne K (.ref C) (.ref Cy) = some (decide (x = y))) ∧
    PySem.W.kitOne K (.ref C) (.type "ValueError") = some true
section
variable {X : Cx} {E : XK} {ρ : List SV} {pos : Pos} {a C : Addr} {oe : Obj} {pn : List (Addr × Obj)}
abbrev Su (X : Cx) (a : Addr) (oe : Obj) (pn : List (Addr × Obj)) : Cx := X.suite a ((a, oe) :: pn)
theorem ex_isE (i : Nat) {e y : Str} {p p1 p2 : Pos} {Cy : Addr} {b : Bool} (hc : L2.ExcC X.K C) (hz : Zc (.ref C) none oe) (hf : ∃ vs, oe.data = .fields vs) (hm : X.mg "isinstance" = none) (hy : X.mg y = some (.ref Cy)) (hk : PySem.W.kitOne X.K (.ref C) (.ref Cy) = some b)
    (h0 : ρ[i]? = some (.d (.fn a)) := by rfl) (hN : X.N[i]? = some e := by rfl) (hv : Vis X.env.scope e := by first | exact Or.inl rfl | exact Or.inr (Or.inl rfl) | exact Or.inr (Or.inr rfl)) (hg : Gl X "isinstance" := by rfl) (hgy : Gl X y := by rfl) (hd : (e == ("__debug__" : Str)) = false := by decide) (hcd : (e == ("__classdict__" : Str)) = false := by decide)
    (hdy : (y == ("__debug__" : Str)) = false := by decide) (st1 : starEach [.Name e p1, .Name y p2] X.env = (false, eval (.Name e p1) X.env) :: starEach [.Name y p2] X.env := by rfl) (st2 : starEach [.Name y p2] X.env = (false, eval (.Name y p2) X.env) :: starEach [] X.env := by rfl)
    (hpl : (backTo pos (starEach [.Name y p2] X.env)).any (·.1) = false := by rfl) : EX (Su X a oe pn) E (.Call (.Name "isinstance" p) [.Name e p1, .Name y p2] [] pos) ρ (pure (.bl b)) := by
  intro Mb M B σ H P EE Q o r pm q _
  obtain ⟨v, ev, iv⟩ := r.get h0
  have iv : v = .ref a := iv
  refine of_pe (pe_callB (X := Su X a oe pn) (call_isE hc hz hf) hg hm (by decide +kernel) (pa_cons (pe_var (X := Su X a oe pn) hN hv hd hcd) (pa_cons (pe_glob (X := Su X a oe pn) hgy hy (v := .ref Cy) rfl hdy) pa_nil st2) st1) (by decide) (by decide) st1 hpl) ?_
  exact ⟨v, ev, .ref Cy, .ref Cy, b, by rw [iv], fun u h => by cases h; rfl, hk, q.here o pm rfl⟩
theorem ex_isV (i : Nat) {e : Str} {p p1 p2 : Pos} (hc : L2.ExcC X.K C) (hz : Zc (.ref C) none oe) (hf : ∃ vs, oe.data = .fields vs) (hm : X.mg "isinstance" = none) (hy : X.mg "ValueError" = none) (hk : PySem.W.kitOne X.K (.ref C) (.type "ValueError") = some true)
    (h0 : ρ[i]? = some (.d (.fn a)) := by rfl) (hN : X.N[i]? = some e := by rfl) (hv : Vis X.env.scope e := by first | exact Or.inl rfl | exact Or.inr (Or.inl rfl) | exact Or.inr (Or.inr rfl)) (hg : Gl X "isinstance" := by rfl) (hgy : Gl X "ValueError" := by rfl) (hd : (e == ("__debug__" : Str)) = false := by decide) (hcd : (e == ("__classdict__" : Str)) = false := by decide)
    (st1 : starEach [.Name e p1, .Name "ValueError" p2] X.env = (false, eval (.Name e p1) X.env) :: starEach [.Name "ValueError" p2] X.env := by rfl) (st2 : starEach [.Name "ValueError" p2] X.env = (false, eval (.Name "ValueError" p2) X.env) :: starEach [] X.env := by rfl)
    (hpl : (backTo pos (starEach [.Name "ValueError" p2] X.env)).any (·.1) = false := by rfl) : EX (Su X a oe pn) E (.Call (.Name "isinstance" p) [.Name e p1, .Name "ValueError" p2] [] pos) ρ (pure (.bl true)) := by
  intro Mb M B σ H P EE Q o r pm q _
  obtain ⟨v, ev, iv⟩ := r.get h0
  have iv : v = .ref a := iv
  refine of_pe (pe_callB (X := Su X a oe pn) (call_isE hc hz hf) hg hm (by decide +kernel) (pa_cons (pe_var (X := Su X a oe pn) hN hv hd hcd) (pa_cons (pe_bltn (X := Su X a oe pn) hgy hy (by decide +kernel) (v := .ty "ValueError") rfl (by decide) (by decide)) pa_nil st2) st1) (by decide) (by decide) st1 hpl) ?_
  exact ⟨v, ev, .ty "ValueError", .type "ValueError", true, by rw [iv], fun u h => by cases h; rfl, hk, q.here o pm rfl⟩
theorem hot_su (hn : PySem.PXN.CtxN oe) (hf : ∃ vs, oe.data = .fields vs) : HotC (Su X a oe pn) := by
  obtain ⟨vs, e⟩ := hf
  exact ⟨(a, oe), ⟨rfl, vs, e, hn vs e⟩, List.mem_cons_self⟩
/-! ### [name for name, there in rows if there] in the suite -/
theorem ef_pairs {j1 j2 : Nat} {tg1 tg2 : Str} {elt iter c : Expr} {scope : Scope} {q1 q2 tpos : Pos} {kk : Nat} {own : List (Str × Nat)} {ds : List (D × D)} {ρw : List SV} {st : D × D → List SV} {mt : D × D → W Bool} {me : D × D → W D} (hot : HotC X) (hs : X.stack = X.env :: X.outer) (hfr : X.env.frame = some X.env.locals) (nd : X.N.Nodup)
    (hi : EX X E iter ρ (pure (.lst (ds.map fun p => .tup [p.1, p.2])))) (ok : BlkOk X.N X.env.scope scope own) (hl : ds.length ≤ line)
    (ht : ∀ s H0 C cl fp t, ET (Bk X scope s H0 C cl fp) E0 c (st t) (mt t)) (he : ∀ s H0 C cl fp t, EX (Bk X scope s H0 C cl fp) E0 elt (st t) (me t))
    (hst : ∀ t, ((wipeS ρ (own.map (·.2))).set j1 (.d t.1)).set j2 (.d t.2) = st t := by intros; rfl) (h1 : j1 ∈ own.map (·.2) := by decide) (h2 : j2 ∈ own.map (·.2) := by decide)
    (hy1 : X.N[j1]? = some tg1 := by rfl) (hy2 : X.N[j2]? = some tg2 := by rfl) (hl1 : ∀ s H0 C cl fp, (Bk X scope s H0 C cl fp).env.scope.names.lookup tg1 = some .local := by intros; rfl) (hl2 : ∀ s H0 C cl fp, (Bk X scope s H0 C cl fp).env.scope.names.lookup tg2 = some .local := by intros; rfl)
    (hn : ∀ s H0 C cl fp, (assignEach [.Name tg1 q1, .Name tg2 q2] (Bk X scope s H0 C cl fp).env).length = 2 := by intros; rfl) (hst' : ∀ s H0 C cl fp, (assignEach [.Name tg1 q1, .Name tg2 q2] (Bk X scope s H0 C cl fp).env).findIdx? (·.1) = none := by intros; rfl)
    (g1 : ∀ s H0 C cl fp, (assignEach [.Name tg1 q1, .Name tg2 q2] (Bk X scope s H0 C cl fp).env).map (·.2) = assign (.Name tg1 q1) (Bk X scope s H0 C cl fp).env :: (assignEach [.Name tg2 q2] (Bk X scope s H0 C cl fp).env).map (·.2) := by intros; rfl)
    (g2 : ∀ s H0 C cl fp, (assignEach [.Name tg2 q2] (Bk X scope s H0 C cl fp).env).map (·.2) = assign (.Name tg2 q2) (Bk X scope s H0 C cl fp).env :: (assignEach [] (Bk X scope s H0 C cl fp).env).map (·.2) := by intros; rfl)
    (hf : ∀ x, foldedSetIterable iter X.env x = pure x := by intro _; rfl) :
    EF X E (.ListComp elt [⟨.Tuple [.Name tg1 q1, .Name tg2 q2] kk tpos, iter, [c], 0⟩] scope pos) ρ (compW (ds.map fun p => .tup [p.1, p.2]) fun d => do let t ← patTup 2 (patCons pure (patOne pure)) d; let b ← mt t; if b then (do let x ← me t; pure (some x)) else pure none) := by
  intro Mb M B σ H P EE Q o r pm q ee
  refine of_pe (pe_lcL (g := gTup X.K 2 (gCons (gName j1) (gCons (gName j2) gNil))) (tt := tAll X scope c) (te := eAll X scope elt) hot hs hfr nd pe_w ok (fun s H0 C cl fp hb => pg_tupH hb (pgs_cons (pg_name nd hy1 (.inl (hl1 s H0 C cl fp)) (.inr (hl1 s H0 C cl fp))) (pgs_cons (pg_name nd hy2 (.inl (hl2 s H0 C cl fp)) (.inr (hl2 s H0 C cl fp))) pgs_nil (g2 s H0 C cl fp)) (g1 s H0 C cl fp)) (hn s H0 C cl fp) (hst' s H0 C cl fp))
    (fun s H0 C cl fp => pts_one ⟨fun pins s' σ' H' Q' I h => (h s H0 C cl fp).run pins s' I⟩) (fun s H0 C cl fp => ⟨fun pins s' σ' H' Q' I h => (h s H0 C cl fp).run pins s' I⟩) hf) ?_
  refine tlc_of (mi := pure (ds.map fun p => .tup [p.1, p.2])) (pat := patTup 2 (patCons pure (patOne pure))) (is := [j1, j2]) (ρw := wipeS ρ (own.map (·.2))) (st := st) (mt := mt) (me := me) (E := E) (fun Mb M B σ H P EE R o r p q ee => ?_) rfl (fun z mz => by
      simp only [List.mem_cons, List.not_mem_nil, or_false] at mz
      rcases mz with rfl | rfl <;> assumption) (fun Mb M B σ H d v P EE Q o r iv p q => ?_) (fun t Mb M B σ H P Q o r p q s H0 C cl fp => ht s H0 C cl fp t Mb M B σ H P (fun _ => False) Q o r p q fun _ _ z => z.elim)
    (fun t Mb M B σ H P Q o r p q s H0 C cl fp => he s H0 C cl fp t Mb M B σ H P (fun _ => False) Q o r p q fun _ _ z => z.elim) o r ⟨by rw [List.length_map]; exact hl, pm⟩ q ee
  · refine hi Mb M B σ H (fun d => d = .lst (ds.map fun p => .tup [p.1, p.2]) ∧ P (ds.map fun p => .tup [p.1, p.2])) EE _ o r ⟨rfl, p⟩ (fun d v H1 pd g iv => ?_) ee
    obtain ⟨rfl, pd⟩ := pd
    obtain ⟨a, vs, rfl, na, l, il⟩ := iv
    exact ⟨a, rfl, ⟨vs, .inl (.inl l)⟩, q _ _ H1 pd g (walk_list na l il)⟩
  · cases d with
    | tup es =>
      obtain ⟨a, vs, rfl, sq, il⟩ := iv
      match es, p, il with
      | [d1, d2], p, ⟨v1, r1, e1, i1, v2, r2, e2, i2, e3⟩ =>
        subst e1 e2
        have e3 : r2 = [] := e3
        subst e3
        have r3 := (r.setD (i := j1) i1).setD (i := j2) i2
        rw [hst (d1, d2)] at r3
        exact ⟨a, _, rfl, sq.sqT, rfl, v1, [v2], rfl, v2, [], rfl, rfl, q (d1, d2) _ p ⟨by simp, fun z nz => by
          simp only [List.mem_cons, List.not_mem_nil, or_false, not_or] at nz
          rw [List.getElem?_set_ne (Ne.symm nz.2), List.getElem?_set_ne (Ne.symm nz.1)]⟩ r3⟩
      | [], p, _ => exact p.elim
      | [_], p, _ => exact p.elim
      | _ :: _ :: _ :: _, p, _ => exact p.elim
    | pr es =>
      obtain ⟨a, vs, rfl, sq, il⟩ := iv
      match es, p, il with
      | [d1, d2], p, ⟨v1, r1, e1, i1, v2, r2, e2, i2, e3⟩ =>
        subst e1 e2
        have e3 : r2 = [] := e3
        subst e3
        have r3 := (r.setD (i := j1) i1).setD (i := j2) i2
        rw [hst (d1, d2)] at r3
        exact ⟨a, _, rfl, sq, rfl, v1, [v2], rfl, v2, [], rfl, rfl, q (d1, d2) _ p ⟨by simp, fun z nz => by
          simp only [List.mem_cons, List.not_mem_nil, or_false, not_or] at nz
          rw [List.getElem?_set_ne (Ne.symm nz.2), List.getElem?_set_ne (Ne.symm nz.1)]⟩ r3⟩
      | [], p, _ => exact p.elim
      | [_], p, _ => exact p.elim
      | _ :: _ :: _ :: _, p, _ => exact p.elim
    | _ => exact p.elim
end
end DG

/-! ## DG16 -/
set_option Elab.async false
set_option linter.all false
set_option maxRecDepth 100000
set_option maxHeartbeats 4000000
namespace DG
open PySem PySem.Spec PyProof.Rows L2
/-! ### what the top has written, by a hook -/
mutual
/-- this value stands for that data -/
def relD (K : PySem.W.Frag) : D → Value → Bool
  | .int i, u => match u with
    | .int j _ => decide (i = j)
    | _ => false
  | .str x, u => match u with
    | .str z _ => decide (x = z)
    | _ => false
  | .tup ds, u => match u with
    | .ref a => (match K.lookup a with
      | some ⟨.type c, none, .seq its _, _⟩ => decide (c = "tuple") && (decide (its.size ≤ 1000) && relDs K ds its.toList)
      | _ => false)
    | _ => false
  | _, _ => false
def relDs (K : PySem.W.Frag) : List D → List Value → Bool
  | [], us => match us with
    | [] => true
    | _ => false
  | d :: ds, us => match us with
    | u :: us => relD K d u && relDs K ds us
    | [] => false
end
mutual
theorem relD_ok {K : PySem.W.Frag} : ∀ (d : D) (u : Value), relD K d u = true → ∃ v, RelV v u ∧ KD K d v
  | .int i, u, h => by
    unfold relD at h
    split at h
    · exact ⟨.int i, ⟨_, by rw [of_decide_eq_true h]⟩, rfl⟩
    · cases h
  | .str i, u, h => by
    unfold relD at h
    split at h
    · exact ⟨.str i, ⟨_, by rw [of_decide_eq_true h]⟩, rfl⟩
    · cases h
  | .tup ds, u, h => by
    unfold relD at h
    split at h
    · rename_i a
      split at h
      · rename_i c its n sl hl
        rw [Bool.and_eq_true, Bool.and_eq_true, decide_eq_true_eq, decide_eq_true_eq] at h
        obtain ⟨vs, r, k⟩ := relDs_ok ds _ h.2.2
        refine ⟨.ref a, rfl, a, vs, rfl, .inr ⟨_, its, n, hl, by rw [h.1], rfl, rfl, Nat.le_trans h.2.1 (by rw [sizeLine_eq]; decide), r⟩, k⟩
      · cases h
    · cases h
  | .non, u, h => by unfold relD at h; cases h
  | .bl _, u, h => by unfold relD at h; cases h
  | .pr _, u, h => by unfold relD at h; cases h
  | .lst _, u, h => by unfold relD at h; cases h
  | .fn _, u, h => by unfold relD at h; cases h
  | .bag, u, h => by unfold relD at h; cases h
  | .scr _, u, h => by unfold relD at h; cases h
theorem relDs_ok {K : PySem.W.Frag} : ∀ (ds : List D) (us : List Value), relDs K ds us = true → ∃ vs, Vals vs us ∧ IsL K (fun _ => False) (fun _ => False) (fun _ => none) ds vs
  | [], us, h => by
    unfold relDs at h
    split at h
    · exact ⟨[], .nil, rfl⟩
    · cases h
  | d :: ds, us, h => by
    unfold relDs at h
    split at h
    · rename_i u us'
      rw [Bool.and_eq_true] at h
      obtain ⟨v, r, k⟩ := relD_ok d u h.1
      obtain ⟨vs, rs, ks⟩ := relDs_ok ds us' h.2
      exact ⟨v :: vs, .cons r rs, v, vs, rfl, k, ks⟩
    · cases h
end
/-- the class x is one of the package's, as _law_error asks it -/
def eOk (K : PySem.W.Frag) (x : Str) : Bool := match PySem.W.nsIn K mainGlobals x with
  | some (some (.ref C)) =>
    decide (PySem.W.findIn K (.ref C) "__getattribute__" = some (some (.builtin "BaseException.__getattribute__"))) && (decide (PySem.W.findIn K (.ref C) "__getattr__" = some none) && (decide (PySem.W.subIn K (.ref C) (.type "BaseException") = some true) && (PySem.W.hasDictIn K C &&
    (decide (PySem.W.findIn K (.ref C) "__class__" = some (some (.builtin "object.__class__"))) && (decide (PySem.W.specialIn K (.builtin "object.__class__") "__get__" = some (some (.builtin "getset_descriptor.__get__"))) && (decide (PySem.W.takesIn K (.builtin "object.__class__") = some true) && (decide (PySem.W.mroIn K C (.type "object") = some true) &&
    ((match PySem.W.nsIn K mainGlobals "DedupError" with
      | some (some cd) => decide (PySem.W.exmOne K (.ref C) cd = some true)
      | _ => false) && ((errNames.all fun y => match PySem.W.nsIn K mainGlobals y with
      | some (some (.ref Cy)) => decide (PySem.W.kitOne K (.ref C) (.ref Cy) = some (decide (x = y)))
      | _ => false) && decide (PySem.W.kitOne K (.ref C) (.type "ValueError") = some true))))))))))
  | _ => false
def D.isScr : D → Bool
  | .scr _ => true
  | _ => false
/-- a constant; with .scr, a class of exceptions -/
def cOk (K : PySem.W.Frag) (c : Str × D) : Bool := if c.2.isScr = true then eOk K c.1 else match PySem.W.nsIn K mainGlobals c.1 with
  | some (some u) => relD K c.2 u
  | _ => false
abbrev AlX : Type := Bool × He.Al
def obsX (fa : List He.Fa) (cs : List (Str × D)) (fn : List He.FnD) (K : PySem.W.Frag) : AlX := (cs.all (cOk K), He.obsE fa fn K)
def valX (fn : List He.FnD) : AlX := (true, He.valE fn)
def SaysX (fa : List He.Fa) (cs : List (Str × D)) (fn : List He.FnD) (K : PySem.W.Frag) : Prop := obsX fa cs fn K = valX fn
def obsXG (n : Nat) (fa : List He.Fa) (cs : List (Str × D)) (fn : List He.FnD) (g : Addr → Option Obj) : AlX := obsX fa cs fn (He.frG g (He.asG g n))
def hookX (n : Nat) (fa : List He.Fa) (cs : List (Str × D)) (fn : List He.FnD) : PySem.W.Hook where
  α := AlX
  obs := fun s => obsXG n fa cs fn s.heap.get?
  val := fun _ => valX fn
  says := fun _ h => ∃ K : PySem.W.Frag, K.In h ∧ SaysX fa cs fn K
  of := fun _ _ e => ⟨_, He.frG_in, e⟩
  keeps := fun _ _ _ ⟨K, hK, c⟩ k => ⟨K, PySem.W.Frag.In.keeps hK k, c⟩
theorem obsXG_eq {n : Nat} {fa : List He.Fa} {cs : List (Str × D)} {fn : List He.FnD} {g : Addr → Option Obj} {s : Shared} (h : ∀ a, g a = s.heap.get? a) : obsXG n fa cs fn g = (hookX n fa cs fn).obs s := by
  have e : g = s.heap.get? := funext h
  rw [e]
  rfl
def fnD (x : Str) (st : Stmt) : He.FnD := ⟨(x, none), x, x, defArgs st, defBody st, defScope st⟩
section
variable {fa : List He.Fa} {cs : List (Str × D)} {fn : List He.FnD} {K : PySem.W.Frag} {h : Heap} {mg : Str → Option Value}
theorem SaysX.e (c : SaysX fa cs fn K) : He.SaysE fa fn K := congrArg (fun z : AlX => z.2) c
theorem SaysX.glob (c : SaysX fa cs fn K) (X : K.In h) (G : h.Ns mainGlobals mg) (i : Nat) {x : Str} {d : D} (hi : cs[i]? = some (x, d) := by rfl) (hd : d.isScr = false := by rfl) : GlobD K mg x d := by
  have c1 : cs.all (cOk K) = true := congrArg (fun z : AlX => z.1) c
  have c2 := List.all_eq_true.mp c1 (x, d) (List.mem_of_getElem? hi)
  unfold cOk at c2
  rw [if_neg (by rw [hd]; exact Bool.false_ne_true)] at c2
  split at c2
  · rename_i u e
    obtain ⟨v, r, k⟩ := relD_ok d u c2
    exact ⟨u, v, PySem.W.mg_of X G e, r, k⟩
  · cases c2
theorem SaysX.err (c : SaysX fa cs fn K) (X : K.In h) (G : h.Ns mainGlobals mg) (i : Nat) {x : Str} (hi : cs[i]? = some (x, .scr []) := by rfl) : ErrC K mg x := by
  have c1 : cs.all (cOk K) = true := congrArg (fun z : AlX => z.1) c
  have c2 : (if (D.scr []).isScr = true then eOk K x else _) = true := List.all_eq_true.mp c1 (x, .scr []) (List.mem_of_getElem? hi)
  rw [if_pos (show (D.scr []).isScr = true from rfl)] at c2
  unfold eOk at c2
  split at c2
  · rename_i C e
    simp only [Bool.and_eq_true, decide_eq_true_eq, List.all_eq_true] at c2
    obtain ⟨h1, h2, h3, h4, h5, h6, h7, h8, h9, h10, h11⟩ := c2
    refine ⟨C, PySem.W.mg_of X G e, ⟨h1, h2, h3, h4, h5, h6, h7, h8⟩, ?_, fun y my => ?_, h11⟩
    · split at h9
      · rename_i cd e2
        exact ⟨cd, PySem.W.mg_of X G e2, of_decide_eq_true h9⟩
      · cases h9
    · have := h10 y my
      split at this
      · rename_i Cy e2
        exact ⟨Cy, PySem.W.mg_of X G e2, of_decide_eq_true this⟩
      · cases this
  · cases c2
theorem SaysX.free (c : SaysX fa cs fn K) (X : K.In h) (G : h.Ns mainGlobals mg) (i : Nat) {x : Str} (hi : fa[i]? = some (.free x) := by rfl) : mg x = none := He.free_ok X G (c.e.fact i hi)
theorem SaysX.pk (c : SaysX fa cs fn K) (X : K.In h) (G : h.Ns mainGlobals mg) (i k : Nat) {x : Str} {st : Stmt} {ps : List Str} (hk : fn[k]? = some (fnD x st) := by rfl) (hi : fa[i]? = some (.glo x) := by rfl) (hj : fa[i + 1]? = some (.keep x) := by rfl)
    (hb : ∀ (kV doc pm : Value) (an : Option Addr) (cdv ct : Value) (us : List Value), us.length = ps.length → bindArgs (PySem.W.fnOf x x (defArgs st) (defBody st) (defScope st) .none kV doc pm an cdv ct) ⟨us, []⟩ = pure (ps.zip us)) : Pk K mg x st ps := by
  obtain ⟨oc, od, osl, kV, doc, pm, an, cdv, ct, l, cc⟩ := c.e.def_ k hk
  have e := He.eqO_ok (c.e.fact i hi)
  exact pk_of X G hb e l cc (He.keep_ok (c.e.fact (i + 1) hj))
theorem SaysX.exc (c : SaysX fa cs fn K) (X : K.In h) (G : h.Ns mainGlobals mg) (i : Nat) {x : Str} (hi : fa[i]? = some (.glo x) := by rfl) (hj : fa[i + 1]? = some (.exc x) := by rfl) : ExcC K mg x := by
  obtain ⟨e1, e2, e3, e4⟩ := He.exc_ok (c.e.fact (i + 1) hj)
  exact exc_of X G (He.eqO_ok (c.e.fact i hi)) e1 e2 e3 e4
end
/-- the end of a law, over a hook -/
theorem walk_ofY {l : PySem.W.OpenLaw} {n k : Nat} {q : Program} {loose : List Str} {XP : (Str → Option Value) → Heap → Prop} {YP : World → Heap → Prop} {d : DefRec}
    (hn : l.most = some n) (hn2 : n ≤ sizeLine) (hdf : d.params.defaults = []) (hr : Room k callerA)
    (F : ∀ (w : World) (mg : Str → Option Value) (fa : Addr) (h : Heap), YP w h → h.Ns mainGlobals mg → mg d.name = some (.ref fa) →
      ∃ (K : PySem.W.Frag) (fd : FuncData), K.In h ∧ (∀ (s : Shared) (u : Value), BindsTo s fd ⟨[u], []⟩ [("script", u)]) ∧ ∀ base : Heap, FnOk l.prog w K mg base (L2N.CX l.prog w) k fa fd ["script"] (spLaw K)) :
    PySem.W.WalkO q loose XP YP l.row.toRowW d [] (fun f vs => PySem.call f vs) := by
  refine Att.attach_callB hn hdf fun w s₀ s₁ mg mb fa o pm cd doc a vs ns G Y ho hd hcd hmg hobj hints hlen hbits hg => ?_
  obtain ⟨K, fd, KX, hb, hF⟩ := F w mg fa _ Y G.T.g hmg
  refine law_call KX G.T.g G.T.b G.T.builtins G.T.nolimit hg hobj hints (Nat.le_trans hlen hn2) hr (fun base _ _ => hF base) hb (fun H hO hS => ⟨ns, .ref a, rfl, scr_of hO hS, hbits, fun _ => rfl⟩) fun H e s' h => ?_
  obtain ⟨_, _, _, _, _, _, _, _, _, _, _, _, z⟩ := h
  exact z
/-- the law's own function, called by its one argument -/
theorem law_pk {K : PySem.W.Frag} {mg : Str → Option Value} {st : Stmt} {fa : Addr} (p : Pk K mg "law" st ["script"]) (hmg : mg "law" = some (.ref fa))
    (hb : ∀ (kV doc pm : Value) (an : Option Addr) (cdv ct : Value) (u : Value), bindArgs (PySem.W.fnOf "law" "law" (defArgs st) (defBody st) (defScope st) .none kV doc pm an cdv ct) ⟨[u], []⟩ = pure [(("script" : Str), u)]) :
    ∃ fd, Fun K "law" "law" st fa fd ∧ ∀ (s : Shared) (u : Value), BindsTo s fd ⟨[u], []⟩ [("script", u)] := by
  obtain ⟨f, fd, F, e, _⟩ := p.ex
  rw [hmg] at e
  cases e
  obtain ⟨oc, od, kV, doc, pm, an, cdv, ct, osl, rfl, l, cc⟩ := F.ex
  exact ⟨_, F, fun s u => .of_eq (hb kV doc pm an cdv ct u)⟩
end DG

/-! ## DC0 -/
set_option Elab.async false
set_option linter.all false
set_option maxRecDepth 100000
set_option maxHeartbeats 4000000
namespace DG
open PySem PySem.Spec PyProof.Rows L2
/-! ### the constants of the modules -/
def c_COUNT_KINDS : D := .tup [.str "last", .str "recent"]
def c_TIME_KINDS : D := .tup [.str "hold", .str "renew"]
def c_KINDS : D := .tup [.str "last", .str "recent", .str "hold", .str "renew"]
def c_NAMES : D := .tup [.str "a", .str "b", .str "c"]
def c_LETTERS : D := .str "abcdefghijklmnopqrstuvwxyz"
def c_MAX_COUNT : D := .int 60
def c_MAX_TICK : D := .int 1000000
def c_MAX_MESSAGES : D := .int 60
def c_EMPTY : D := .tup [.tup [], .tup []]
/-- what the bag's taker comes to -/
def takeD : List D → W D
  | [.bag, .int m] => need (0 < m) (do let z ← anyW (fun z : Int => 0 ≤ z ∧ z < m); pure (.int z))
  | _ => stuck
end DG

/-! ## DC1 -/
set_option Elab.async false
set_option linter.all false
set_option maxRecDepth 100000
set_option maxHeartbeats 4000000
namespace DG
open PySem PySem.Spec PyProof.Rows L2

def dn_is_integer (v_value : D) (v_low : D) (v_high : D) : W D := do let x12 ← (do let x1 ← (pure v_value); isiD x1 "int"); let x13 ← boolD x12; if x13 then (do let x10 ← (do let x3 ← (do let x2 ← (pure v_value); isiD x2 "bool"); let x4 ← boolD x3; pure (.bl (!x4))); let x11 ← boolD x10; if x11 then (do let x5 ← (pure v_low); let x6 ← (pure v_value); let x7 ← leD x5 x6; let x8 ← boolD x7; if x8 then (do let x9 ← (pure v_high); leD x6 x9) else pure (.bl false)) else pure (.bl false)) else pure (.bl false)
def den_is_integer : List D → W D
  | [v_value, v_low, v_high] => dn_is_integer v_value v_low v_high
  | _ => stuck

def dn_is_kind (v_value : D) : W D := do let x6 ← (do let x1 ← (pure v_value); isiD x1 "str"); let x7 ← boolD x6; if x7 then (do let x4 ← (pure v_value); let x5 ← (do let x2 ← (pure c_COUNT_KINDS); let x3 ← (pure c_TIME_KINDS); addD x2 x3); inD x4 x5) else pure (.bl false)
def den_is_kind : List D → W D
  | [v_value] => dn_is_kind v_value
  | _ => stuck

def dn_largest_size (v_kind : D) : W D := do let x4 ← (do let x1 ← (pure v_kind); let x2 ← (pure c_COUNT_KINDS); let x3 ← inD x1 x2; boolD x3); if x4 then (pure c_MAX_COUNT) else (pure c_MAX_TICK)
def den_largest_size : List D → W D
  | [v_kind] => dn_largest_size v_kind
  | _ => stuck

def dn_is_rule (v_value : D) : W D := do let t19 ← (do let x18 ← (do let x3 ← (do let x2 ← (do let x1 ← (pure v_value); isiD x1 "tuple"); boolD x2); pure (!x3)); if x18 then pure true else (do let x17 ← (do let x7 ← (do let x6 ← (do let x4 ← (pure v_value); let x5 ← (pure []); pure (x4 :: x5)); lenD x6); let x8 ← (pure (.int 2)); let x9 ← neD x7 x8; boolD x9); if x17 then pure true else (do let x16 ← (do let x15 ← (do let x14 ← (do let x12 ← (do let x10 ← (pure v_value); let x11 ← (pure (.int 0)); idxD x10 x11); let x13 ← (pure []); pure (x12 :: x13)); den_is_kind x14); boolD x15); pure (!x16)))); if t19 then (pure (.bl false)) else (do let x33 ← (do let x31 ← (do let x20 ← (pure v_value); let x21 ← (pure (.int 1)); idxD x20 x21); let x32 ← (do let x29 ← (pure (.int 1)); let x30 ← (do let x27 ← (do let x26 ← (do let x24 ← (do let x22 ← (pure v_value); let x23 ← (pure (.int 0)); idxD x22 x23); let x25 ← (pure []); pure (x24 :: x25)); den_largest_size x26); let x28 ← (pure []); pure (x27 :: x28)); pure (x29 :: x30)); pure (x31 :: x32)); den_is_integer x33)
def den_is_rule : List D → W D
  | [v_value] => dn_is_rule v_value
  | _ => stuck

def dn_is_identifier (v_value : D) : W D := do let t15 ← (do let x14 ← (do let x3 ← (do let x2 ← (do let x1 ← (pure v_value); isiD x1 "str"); boolD x2); pure (!x3)); if x14 then pure true else (do let x13 ← (do let x7 ← (pure (.int 1)); let x8 ← (do let x6 ← (do let x4 ← (pure v_value); let x5 ← (pure []); pure (x4 :: x5)); lenD x6); let x9 ← leD x7 x8; let x10 ← boolD x9; if x10 then (do let x11 ← (pure (.int 8)); let x12 ← leD x8 x11; boolD x12) else pure false); pure (!x13))); if t15 then (pure (.bl false)) else (do let x28 ← (do let x26 ← (do let x25 ← (do let ds24 ← (do let x16 ← (pure v_value); seqD x16); need (ds24.length ≤ line) (compW ds24 fun d22 => do let t19 ← pure d22; let x23 ← (do let x20 ← (pure t19); let x21 ← (pure c_LETTERS); inD x20 x21); pure (some x23))); pure (.lst x25)); let x27 ← (pure []); pure (x26 :: x27)); allD x28)
def den_is_identifier : List D → W D
  | [v_value] => dn_is_identifier v_value
  | _ => stuck

def dn_is_message (v_value : D) : W D := do let t11 ← (do let x10 ← (do let x3 ← (do let x2 ← (do let x1 ← (pure v_value); isiD x1 "tuple"); boolD x2); pure (!x3)); if x10 then pure true else (do let x7 ← (do let x6 ← (do let x4 ← (pure v_value); let x5 ← (pure []); pure (x4 :: x5)); lenD x6); let x8 ← (pure (.int 2)); let x9 ← neD x7 x8; boolD x9)); if t11 then (pure (.bl false)) else (do let x26 ← (do let x20 ← (do let x18 ← (do let x12 ← (pure v_value); let x13 ← (pure (.int 0)); idxD x12 x13); let x19 ← (do let x16 ← (pure (.int 0)); let x17 ← (do let x14 ← (pure c_MAX_TICK); let x15 ← (pure []); pure (x14 :: x15)); pure (x16 :: x17)); pure (x18 :: x19)); den_is_integer x20); let x27 ← boolD x26; if x27 then (do let x25 ← (do let x23 ← (do let x21 ← (pure v_value); let x22 ← (pure (.int 1)); idxD x21 x22); let x24 ← (pure []); pure (x23 :: x24)); den_is_identifier x25) else pure (.bl false))
def den_is_message : List D → W D
  | [v_value] => dn_is_message v_value
  | _ => stuck

def dn_is_log (v_value : D) : W D := do let t11 ← (do let x10 ← (do let x3 ← (do let x2 ← (do let x1 ← (pure v_value); isiD x1 "tuple"); boolD x2); pure (!x3)); if x10 then pure true else (do let x7 ← (do let x6 ← (do let x4 ← (pure v_value); let x5 ← (pure []); pure (x4 :: x5)); lenD x6); let x8 ← (pure c_MAX_MESSAGES); let x9 ← gtD x7 x8; boolD x9)); if t11 then (pure (.bl false)) else (do let t28 ← (do let x27 ← (do let x26 ← (do let x25 ← (do let x23 ← (do let x22 ← (do let ds21 ← (do let x12 ← (pure v_value); seqD x12); need (ds21.length ≤ line) (compW ds21 fun d19 => do let t15 ← pure d19; let x20 ← (do let x18 ← (do let x16 ← (pure t15); let x17 ← (pure []); pure (x16 :: x17)); den_is_message x18); pure (some x20))); pure (.lst x22)); let x24 ← (pure []); pure (x23 :: x24)); allD x25); boolD x26); pure (!x27)); if t28 then (pure (.bl false)) else (do let x56 ← (do let x54 ← (do let x53 ← (do let ds52 ← (do let x38 ← (do let x36 ← (pure v_value); let x37 ← (do let x34 ← (do let x31 ← (pure v_value); let x32 ← (do let x29 ← (pure (.int 1)); let x30 ← intD x29; pure (some x30)); let x33 ← (pure none); slcD x31 x32 x33); let x35 ← (pure []); pure (x34 :: x35)); pure (x36 :: x37)); zipD x38); need (ds52.length ≤ line) (compW ds52 fun d50 => do let t43 ← (patTup 2 (patCons pure (patOne pure))) d50; let x51 ← (do let x48 ← (do let x44 ← (pure t43.1); let x45 ← (pure (.int 0)); idxD x44 x45); let x49 ← (do let x46 ← (pure t43.2); let x47 ← (pure (.int 0)); idxD x46 x47); leD x48 x49); pure (some x51))); pure (.lst x53)); let x55 ← (pure []); pure (x54 :: x55)); allD x56))
def den_is_log : List D → W D
  | [v_value] => dn_is_log v_value
  | _ => stuck

def dn_need_rule (v_value : D) : W D := do let t6 ← (do let x5 ← (do let x4 ← (do let x3 ← (do let x1 ← (pure v_value); let x2 ← (pure []); pure (x1 :: x2)); den_is_rule x3); boolD x4); pure (!x5)); if t6 then (throwW "InvalidRule") else (pure .non)
def den_need_rule : List D → W D
  | [v_value] => dn_need_rule v_value
  | _ => stuck

def dn_need_log (v_value : D) : W D := do let t6 ← (do let x5 ← (do let x4 ← (do let x3 ← (do let x1 ← (pure v_value); let x2 ← (pure []); pure (x1 :: x2)); den_is_log x3); boolD x4); pure (!x5)); if t6 then (throwW "InvalidLog") else (pure .non)
def den_need_log : List D → W D
  | [v_value] => dn_need_log v_value
  | _ => stuck

def dn_need_kind (v_value : D) (v_kinds : D) : W D := do let t8 ← (do let x7 ← (do let x3 ← (do let x2 ← (do let x1 ← (pure v_value); isiD x1 "str"); boolD x2); pure (!x3)); if x7 then pure true else (do let x4 ← (pure v_value); let x5 ← (pure v_kinds); let x6 ← notInD x4 x5; boolD x6)); if t8 then (throwW "InvalidKind") else (pure .non)
def den_need_kind : List D → W D
  | [v_value, v_kinds] => dn_need_kind v_value v_kinds
  | _ => stuck

def dn_remembers (v_rule : D) (v_state : D) (v_tick : D) (v_identifier : D) : W D := ((do let x4 ← (pure v_state); (patTup 2 (patCons pure (patOne pure))) x4) >>= fun s6 => (do let t10 ← (do let x7 ← (pure v_identifier); let x8 ← (pure s6.1); let x9 ← notInD x7 x8; boolD x9); if t10 then (pure (.bl false)) else (do let t16 ← (do let x13 ← (do let x11 ← (pure v_rule); let x12 ← (pure (.int 0)); idxD x11 x12); let x14 ← (pure c_COUNT_KINDS); let x15 ← inD x13 x14; boolD x15); if t16 then (pure (.bl true)) else (do let x26 ← (do let x22 ← (pure v_tick); let x23 ← (do let x20 ← (pure s6.2); let x21 ← (do let x17 ← (pure s6.1); let x19 ← tupD x17; let x18 ← (pure v_identifier); idxOfD x19 x18); idxD x20 x21); subD x22 x23); let x27 ← (do let x24 ← (pure v_rule); let x25 ← (pure (.int 1)); idxD x24 x25); ltD x26 x27))))
def den_remembers : List D → W D
  | [v_rule, v_state, v_tick, v_identifier] => dn_remembers v_rule v_state v_tick v_identifier
  | _ => stuck

def dn_shortened (v_rule : D) (v_state : D) : W D := do let t6 ← (do let x3 ← (do let x1 ← (pure v_rule); let x2 ← (pure (.int 0)); idxD x1 x2); let x4 ← (pure c_COUNT_KINDS); let x5 ← notInD x3 x4; boolD x5); if t6 then (pure v_state) else (do let x33 ← (do let x31 ← (do let x15 ← (do let x7 ← (pure v_state); let x8 ← (pure (.int 0)); idxD x7 x8); let x16 ← (do let x13 ← (do let x11 ← (pure (.int 0)); let x12 ← (do let x9 ← (pure v_rule); let x10 ← (pure (.int 1)); idxD x9 x10); subD x11 x12); let x14 ← intD x13; pure (some x14)); let x17 ← (pure none); slcD x15 x16 x17); let x32 ← (do let x29 ← (do let x26 ← (do let x18 ← (pure v_state); let x19 ← (pure (.int 1)); idxD x18 x19); let x27 ← (do let x24 ← (do let x22 ← (pure (.int 0)); let x23 ← (do let x20 ← (pure v_rule); let x21 ← (pure (.int 1)); idxD x20 x21); subD x22 x23); let x25 ← intD x24; pure (some x25)); let x28 ← (pure none); slcD x26 x27 x28); let x30 ← (pure []); pure (x29 :: x30)); pure (x31 :: x32)); pure (.tup x33))
def den_shortened : List D → W D
  | [v_rule, v_state] => dn_shortened v_rule v_state
  | _ => stuck

def dn_received (v_rule : D) (v_state : D) (v_tick : D) (v_identifier : D) : W D := ((do let x10 ← (do let x9 ← (do let x7 ← (pure v_rule); let x8 ← (do let x5 ← (pure v_state); let x6 ← (do let x3 ← (pure v_tick); let x4 ← (do let x1 ← (pure v_identifier); let x2 ← (pure []); pure (x1 :: x2)); pure (x3 :: x4)); pure (x5 :: x6)); pure (x7 :: x8)); den_remembers x9); let x11 ← boolD x10; pure (.bl (!x11))) >>= fun s13 => (do let t27 ← (do let x26 ← (do let x15 ← (do let x14 ← (pure s13); boolD x14); pure (!x15)); if x26 then (do let x23 ← (do let x16 ← (pure v_rule); let x17 ← (pure (.int 0)); idxD x16 x17); let x24 ← (do let x22 ← (do let x20 ← (pure (.str "last")); let x21 ← (do let x18 ← (pure (.str "hold")); let x19 ← (pure []); pure (x18 :: x19)); pure (x20 :: x21)); pure (.tup x22)); let x25 ← inD x23 x24; boolD x25) else pure false); if t27 then (do let x32 ← (do let x30 ← (pure s13); let x31 ← (do let x28 ← (pure v_state); let x29 ← (pure []); pure (x28 :: x29)); pure (x30 :: x31)); pure (.tup x32)) else ((do let x36 ← (pure v_state); (patTup 2 (patCons pure (patOne pure))) x36) >>= fun s38 => ((do let t42 ← (do let x39 ← (pure v_identifier); let x40 ← (pure s38.1); let x41 ← inD x39 x40; boolD x41); if t42 then ((do let x44 ← (pure s38.1); let x46 ← tupD x44; let x45 ← (pure v_identifier); idxOfD x46 x45) >>= fun s48 => ((do let x77 ← (do let x61 ← (do let x51 ← (pure s38.1); let x52 ← (pure none); let x53 ← (do let x49 ← (pure s48); let x50 ← intD x49; pure (some x50)); slcD x51 x52 x53); let x62 ← (do let x58 ← (pure s38.1); let x59 ← (do let x56 ← (do let x54 ← (pure s48); let x55 ← (pure (.int 1)); addD x54 x55); let x57 ← intD x56; pure (some x57)); let x60 ← (pure none); slcD x58 x59 x60); addD x61 x62); let x78 ← (do let x75 ← (do let x65 ← (pure s38.2); let x66 ← (pure none); let x67 ← (do let x63 ← (pure s48); let x64 ← intD x63; pure (some x64)); slcD x65 x66 x67); let x76 ← (do let x72 ← (pure s38.2); let x73 ← (do let x70 ← (do let x68 ← (pure s48); let x69 ← (pure (.int 1)); addD x68 x69); let x71 ← intD x70; pure (some x71)); let x74 ← (pure none); slcD x72 x73 x74); addD x75 x76); pure (x77, x78)) >>= fun s80 => (pure (s80.1, s80.2)))) else (pure (s38.1, s38.2))) >>= fun s81 => (do let x106 ← (do let x104 ← (pure s13); let x105 ← (do let x102 ← (do let x101 ← (do let x99 ← (pure v_rule); let x100 ← (do let x97 ← (do let x96 ← (do let x94 ← (do let x85 ← (pure s81.1); let x86 ← (do let x84 ← (do let x82 ← (pure v_identifier); let x83 ← (pure []); pure (x82 :: x83)); pure (.tup x84)); addD x85 x86); let x95 ← (do let x92 ← (do let x90 ← (pure s81.2); let x91 ← (do let x89 ← (do let x87 ← (pure v_tick); let x88 ← (pure []); pure (x87 :: x88)); pure (.tup x89)); addD x90 x91); let x93 ← (pure []); pure (x92 :: x93)); pure (x94 :: x95)); pure (.tup x96)); let x98 ← (pure []); pure (x97 :: x98)); pure (x99 :: x100)); den_shortened x101); let x103 ← (pure []); pure (x102 :: x103)); pure (x104 :: x105)); pure (.tup x106))))))
def den_received : List D → W D
  | [v_rule, v_state, v_tick, v_identifier] => dn_received v_rule v_state v_tick v_identifier
  | _ => stuck

def dn_names_known (v_rule : D) (v_state : D) (v_tick : D) : W (List D) := do let x24 ← (do let x22 ← (do let x21 ← (do let ds9 ← (do let x3 ← (do let x1 ← (pure v_state); let x2 ← (pure (.int 0)); idxD x1 x2); seqD x3); need (ds9.length ≤ line) (compW ds9 fun d7 => do let t6 ← pure d7; let c20 ← (do let x19 ← (do let x18 ← (do let x16 ← (pure v_rule); let x17 ← (do let x14 ← (pure v_state); let x15 ← (do let x12 ← (pure v_tick); let x13 ← (do let x10 ← (pure t6); let x11 ← (pure []); pure (x10 :: x11)); pure (x12 :: x13)); pure (x14 :: x15)); pure (x16 :: x17)); den_remembers x18); boolD x19); if c20 then (do let x8 ← (pure t6); pure (some x8)) else pure none)); pure (.lst x21)); let x23 ← (pure []); pure (x22 :: x23)); sortedD x24
def den_names_known : List D → W (List D)
  | [v_rule, v_state, v_tick] => dn_names_known v_rule v_state v_tick
  | _ => stuck

def dn_run (v_rule : D) (v_log : D) : W D3 := ((do let x1 ← (pure c_EMPTY); let x2 ← (pure []); let x3 ← (pure []); pure (x1, x2, x3)) >>= fun s5 => ((do let ds ← (do let x6 ← (pure v_log); seqD x6); forW ds (s5.1, s5.2.1, s5.2.2) fun d7 (s8 : D × List D × List D) => (patTup 2 (patCons pure (patOne pure))) d7 >>= fun t9 => ((do let x26 ← (do let x22 ← (do let x20 ← (pure v_rule); let x21 ← (do let x18 ← (pure s8.1); let x19 ← (do let x16 ← (pure t9.1); let x17 ← (do let x14 ← (pure t9.2); let x15 ← (pure []); pure (x14 :: x15)); pure (x16 :: x17)); pure (x18 :: x19)); pure (x20 :: x21)); den_received x22); (patTup 2 (patCons pure (patOne pure))) x26) >>= fun s28 => ((do let x29 ← (pure s28.1); need (List.length s8.2.1 < line) (pure (s8.2.1 ++ [x29]))) >>= fun s31 => ((do let x42 ← (do let x41 ← (do let x39 ← (do let x38 ← (do let x36 ← (pure v_rule); let x37 ← (do let x34 ← (pure s28.2); let x35 ← (do let x32 ← (pure t9.1); let x33 ← (pure []); pure (x32 :: x33)); pure (x34 :: x35)); pure (x36 :: x37)); (do let r ← den_names_known x38; pure (.lst r))); let x40 ← (pure []); pure (x39 :: x40)); lenD x41); need (List.length s8.2.2 < line) (pure (s8.2.2 ++ [x42]))) >>= fun s44 => (pure (s28.2, s31, s44)))))) >>= fun s45 => (need (List.all s45.2.1 D.flat = true ∧ List.all s45.2.2 D.flat = true) (pure (s45.2.1, s45.2.2, s45.1)))))
def den_run : List D → W D3
  | [v_rule, v_log] => dn_run v_rule v_log
  | _ => stuck

def dn_decisions (v_rule : D) (v_log : D) : W (List D) := ((do let _ ← (do let x3 ← (do let x1 ← (pure v_rule); let x2 ← (pure []); pure (x1 :: x2)); den_need_rule x3); pure ()) >>= fun _ => ((do let _ ← (do let x7 ← (do let x5 ← (pure v_log); let x6 ← (pure []); pure (x5 :: x6)); den_need_log x7); pure ()) >>= fun _ => (do let x13 ← (do let x11 ← (pure v_rule); let x12 ← (do let x9 ← (pure v_log); let x10 ← (pure []); pure (x9 :: x10)); pure (x11 :: x12)); let x14 ← den_run x13; fst3 0 x14)))
def den_decisions : List D → W (List D)
  | [v_rule, v_log] => dn_decisions v_rule v_log
  | _ => stuck

def dn_slipped (v_log : D) (v_flags : D) : W (List D) := ((do let x1 ← (pure []); let x2 ← (pure []); pure (x1, x2)) >>= fun s4 => ((do let ds ← (do let x5 ← (pure v_log); enumD x5); forW ds (s4.2, s4.1) fun d6 (s7 : List D × List D) => (patTup 2 (patCons pure (patOne (patTup 2 (patCons pure (patOne pure)))))) d6 >>= fun t8 => ((do let t18 ← (do let x17 ← (do let x15 ← (pure v_flags); let x16 ← (pure t8.1); idxD x15 x16); boolD x17); if t18 then ((do let t23 ← (do let x20 ← (pure t8.2.2); let x21 ← (pure (.lst s7.1)); let x22 ← inD x20 x21; boolD x22); if t23 then ((do let x25 ← (pure t8.1); need (List.length s7.2 < line) (pure (s7.2 ++ [x25]))) >>= fun s27 => (pure s27)) else (pure s7.2)) >>= fun s28 => ((do let x29 ← (pure t8.2.2); need (List.length s7.1 < line) (pure (s7.1 ++ [x29]))) >>= fun s31 => (pure (s31, s28)))) else (pure (s7.1, s7.2))) >>= fun s32 => (pure (s32.1, s32.2)))) >>= fun s33 => (pure s33.2)))
def den_slipped : List D → W (List D)
  | [v_log, v_flags] => dn_slipped v_log v_flags
  | _ => stuck

def dn_slips (v_rule : D) (v_log : D) : W (List D) := ((do let _ ← (do let x3 ← (do let x1 ← (pure v_rule); let x2 ← (pure []); pure (x1 :: x2)); den_need_rule x3); pure ()) >>= fun _ => ((do let _ ← (do let x7 ← (do let x5 ← (pure v_log); let x6 ← (pure []); pure (x5 :: x6)); den_need_log x7); pure ()) >>= fun _ => (do let x20 ← (do let x18 ← (pure v_log); let x19 ← (do let x16 ← (do let x14 ← (do let x13 ← (do let x11 ← (pure v_rule); let x12 ← (do let x9 ← (pure v_log); let x10 ← (pure []); pure (x9 :: x10)); pure (x11 :: x12)); (do let r ← den_run x13; pure (tup3 r))); let x15 ← (pure (.int 0)); idxD x14 x15); let x17 ← (pure []); pure (x16 :: x17)); pure (x18 :: x19)); den_slipped x20)))
def den_slips : List D → W (List D)
  | [v_rule, v_log] => dn_slips v_rule v_log
  | _ => stuck

def dn_memory (v_rule : D) (v_log : D) : W (List D) := ((do let _ ← (do let x3 ← (do let x1 ← (pure v_rule); let x2 ← (pure []); pure (x1 :: x2)); den_need_rule x3); pure ()) >>= fun _ => ((do let _ ← (do let x7 ← (do let x5 ← (pure v_log); let x6 ← (pure []); pure (x5 :: x6)); den_need_log x7); pure ()) >>= fun _ => (do let x13 ← (do let x11 ← (pure v_rule); let x12 ← (do let x9 ← (pure v_log); let x10 ← (pure []); pure (x9 :: x10)); pure (x11 :: x12)); let x14 ← den_run x13; fst3 1 x14)))
def den_memory : List D → W (List D)
  | [v_rule, v_log] => dn_memory v_rule v_log
  | _ => stuck

def dn_remembered (v_rule : D) (v_log : D) : W (List D) := ((do let _ ← (do let x3 ← (do let x1 ← (pure v_rule); let x2 ← (pure []); pure (x1 :: x2)); den_need_rule x3); pure ()) >>= fun _ => ((do let _ ← (do let x7 ← (do let x5 ← (pure v_log); let x6 ← (pure []); pure (x5 :: x6)); den_need_log x7); pure ()) >>= fun _ => (do let x32 ← (do let x29 ← (pure v_log); let x30 ← (do let x28 ← (pure []); pure (.tup x28)); let x31 ← neD x29 x30; boolD x31); if x32 then (do let x27 ← (do let x25 ← (pure v_rule); let x26 ← (do let x23 ← (do let x14 ← (do let x13 ← (do let x11 ← (pure v_rule); let x12 ← (do let x9 ← (pure v_log); let x10 ← (pure []); pure (x9 :: x10)); pure (x11 :: x12)); (do let r ← den_run x13; pure (tup3 r))); let x15 ← (pure (.int 2)); idxD x14 x15); let x24 ← (do let x21 ← (do let x19 ← (do let x17 ← (pure v_log); let x18 ← (do let x16 ← (pure (.int 1)); negD x16); idxD x17 x18); let x20 ← (pure (.int 0)); idxD x19 x20); let x22 ← (pure []); pure (x21 :: x22)); pure (x23 :: x24)); pure (x25 :: x26)); den_names_known x27) else (pure []))))
def den_remembered : List D → W (List D)
  | [v_rule, v_log] => dn_remembered v_rule v_log
  | _ => stuck

def dn__law_cell_at (ns : List Int) (v_k : D) : W D := do let t7 ← (do let x4 ← (pure v_k); let x5 ← (do let x3 ← (do let x1 ← (pure (.scr ns)); let x2 ← (pure []); pure (x1 :: x2)); lenD x3); let x6 ← ltD x4 x5; boolD x6); if t7 then (do let x8 ← (pure (.scr ns)); let x9 ← (pure v_k); idxD x8 x9) else (pure (.int 0))
def den__law_cell_at : List D → W D
  | [(.scr ns), v_k] => dn__law_cell_at ns v_k
  | _ => stuck

def dn__law_draws (v_cell : D) (v_many : D) (v_size : D) : W (List D) := ((pure []) >>= fun s2 => ((do let x10 ← (pure v_cell); let x11 ← (do let x9 ← (do let x7 ← (do let x5 ← (pure v_cell); let x6 ← (do let x3 ← (pure (.int 10)); let x4 ← (pure (.int 18)); powD x3 x4); geD x5 x6); let x8 ← (pure []); pure (x7 :: x8)); toIntD x9); mulD x10 x11) >>= fun s13 => ((do let x14 ← (pure v_cell); let x15 ← (pure (.int 2305843009213693951)); modD x14 x15) >>= fun s17 => ((do let ds ← (do let x22 ← (do let x20 ← (do let x18 ← (pure v_many); let x19 ← (pure (.int 3)); addD x18 x19); let x21 ← (pure []); pure (x20 :: x21)); rng1D x22); forW ds (s17, s13, s2) fun d23 (s24 : D × D × List D) => pure d23 >>= fun t25 => ((do let x38 ← (do let x36 ← (do let x34 ← (do let x32 ← (do let x28 ← (pure s24.1); let x29 ← (pure s24.1); mulD x28 x29); let x33 ← (do let x30 ← (pure (.int 48271)); let x31 ← (pure s24.1); mulD x30 x31); addD x32 x33); let x35 ← (pure t25); addD x34 x35); let x37 ← (pure (.int 1)); addD x36 x37); let x39 ← (pure (.int 2305843009213693951)); modD x38 x39) >>= fun s41 => ((do let t49 ← (do let x48 ← (do let x42 ← (pure t25); let x43 ← (pure (.int 2)); let x44 ← gtD x42 x43; boolD x44); if x48 then (do let x45 ← (pure s24.2.1); let x46 ← (pure (.int 0)); let x47 ← gtD x45 x46; boolD x47) else pure false); if t49 then ((do let x53 ← (do let x51 ← (pure s24.2.1); let x52 ← (pure v_size); modD x51 x52); need (List.length s24.2.2 < line) (pure (s24.2.2 ++ [x53]))) >>= fun s55 => ((do let x56 ← (pure s24.2.1); let x57 ← (pure v_size); divD x56 x57) >>= fun s59 => (pure (s59, s55)))) else ((do let t63 ← (do let x60 ← (pure t25); let x61 ← (pure (.int 2)); let x62 ← gtD x60 x61; boolD x62); if t63 then ((do let x69 ← (do let x67 ← (do let x65 ← (pure s41); let x66 ← (pure (.int 4096)); divD x65 x66); let x68 ← (pure v_size); modD x67 x68); need (List.length s24.2.2 < line) (pure (s24.2.2 ++ [x69]))) >>= fun s71 => (pure s71)) else (pure s24.2.2)) >>= fun s72 => (pure (s24.2.1, s72)))) >>= fun s73 => (pure (s41, s73.1, s73.2))))) >>= fun s74 => (pure s74.2.2)))))
def den__law_draws : List D → W (List D)
  | [v_cell, v_many, v_size] => dn__law_draws v_cell v_many v_size
  | _ => stuck

def dn__law_bag (ns : List Int) (v_k : D) : W (List D) := do let x15 ← (do let x12 ← (do let x10 ← (do let x5 ← (do let x3 ← (pure (.scr ns)); let x4 ← (do let x1 ← (pure v_k); let x2 ← (pure []); pure (x1 :: x2)); pure (x3 :: x4)); den__law_cell_at x5); let x11 ← (do let x8 ← (pure (.int 400)); let x9 ← (do let x6 ← (pure (.int 1000)); let x7 ← (pure []); pure (x6 :: x7)); pure (x8 :: x9)); pure (x10 :: x11)); (do let r ← den__law_draws x12; pure (.lst r))); let x16 ← (do let x13 ← (pure (.int 0)); let x14 ← (pure []); pure (x13 :: x14)); pure (x15 :: x16)
def den__law_bag : List D → W (List D)
  | [(.scr ns), v_k] => dn__law_bag ns v_k
  | _ => stuck

def dn__law_bags (ns : List Int) (v_limit : D) : W D := do let x28 ← (do let ds27 ← (do let x16 ← (do let x14 ← (do let x13 ← (do let x11 ← (pure (.int 1)); let x12 ← (do let x9 ← (do let x8 ← (do let x6 ← (pure v_limit); let x7 ← (do let x4 ← (do let x3 ← (do let x1 ← (pure (.scr ns)); let x2 ← (pure []); pure (x1 :: x2)); lenD x3); let x5 ← (pure []); pure (x4 :: x5)); pure (x6 :: x7)); minD x8); let x10 ← (pure []); pure (x9 :: x10)); pure (x11 :: x12)); maxD x13); let x15 ← (pure []); pure (x14 :: x15)); rng1D x16); need (ds27.length ≤ line) (compW ds27 fun d25 => do let t19 ← pure d25; let x26 ← (do let x24 ← (do let x22 ← (pure (.scr ns)); let x23 ← (do let x20 ← (pure t19); let x21 ← (pure []); pure (x20 :: x21)); pure (x22 :: x23)); (do let r ← den__law_bag x24; pure (.lst r))); pure (some x26))); pure (.lst x28)
def den__law_bags : List D → W D
  | [(.scr ns), v_limit] => dn__law_bags ns v_limit
  | _ => stuck

def dn__law_take (v_many : D) : W D := ((do let x5 ← (do let x3 ← (do let x1 ← (pure .bag); let x2 ← (pure (.int 1)); idxD x1 x2); let x4 ← (pure (.int 1)); addD x3 x4); cntD x5) >>= fun _ => (do let x20 ← (do let x18 ← (do let x7 ← (pure .bag); let x8 ← (pure (.int 0)); idxD x7 x8); let x19 ← (do let x16 ← (do let x9 ← (pure .bag); let x10 ← (pure (.int 1)); idxD x9 x10); let x17 ← (do let x15 ← (do let x13 ← (do let x11 ← (pure .bag); let x12 ← (pure (.int 0)); idxD x11 x12); let x14 ← (pure []); pure (x13 :: x14)); lenD x15); modD x16 x17); idxD x18 x19); let x21 ← (pure v_many); modD x20 x21))
def den__law_take : List D → W D
  | [.bag, v_many] => dn__law_take v_many
  | _ => stuck

def dn__law_far_draw (v_many : D) : W D := ((do let x1 ← (pure (.int 0)); let x2 ← (pure v_many); pure (x1, x2)) >>= fun s4 => ((whileW (fun (s5 : D × D) => (do let x7 ← (pure s5.2); let x8 ← (pure (.int 0)); let x9 ← gtD x7 x8; boolD x9)) (fun (s5 : D × D) => ((do let x21 ← (do let x17 ← (do let x10 ← (pure (.int 1000)); let x11 ← (pure s5.1); mulD x10 x11); let x18 ← (do let x16 ← (do let x14 ← (pure .bag); let x15 ← (do let x12 ← (pure (.int 1000)); let x13 ← (pure []); pure (x12 :: x13)); pure (x14 :: x15)); takeD x16); addD x17 x18); let x22 ← (do let x19 ← (pure s5.2); let x20 ← (pure (.int 1000)); divD x19 x20); pure (x21, x22)) >>= fun s24 => (pure (s24.1, s24.2)))) (s4.1, s4.2)) >>= fun s25 => (do let x46 ← (do let x40 ← (do let x38 ← (do let x26 ← (pure s25.1); let x27 ← (pure v_many); modD x26 x27); let x39 ← (do let x36 ← (pure (.int 0)); let x37 ← (do let x34 ← (do let x28 ← (pure v_many); let x29 ← (pure (.int 1)); subD x28 x29); let x35 ← (do let x32 ← (do let x30 ← (pure s25.1); let x31 ← (pure v_many); modD x30 x31); let x33 ← (pure []); pure (x32 :: x33)); pure (x34 :: x35)); pure (x36 :: x37)); pure (x38 :: x39)); pure (.lst x40)); let x47 ← (do let x45 ← (do let x43 ← (pure .bag); let x44 ← (do let x41 ← (pure (.int 4)); let x42 ← (pure []); pure (x41 :: x42)); pure (x43 :: x44)); takeD x45); idxD x46 x47)))
def den__law_far_draw : List D → W D
  | [.bag, v_many] => dn__law_far_draw v_many
  | _ => stuck

def dn__law_kind  : W D := do let x15 ← (do let x9 ← (do let x7 ← (pure (.str "last")); let x8 ← (do let x5 ← (pure (.str "recent")); let x6 ← (do let x3 ← (pure (.str "hold")); let x4 ← (do let x1 ← (pure (.str "renew")); let x2 ← (pure []); pure (x1 :: x2)); pure (x3 :: x4)); pure (x5 :: x6)); pure (x7 :: x8)); pure (.lst x9)); let x16 ← (do let x14 ← (do let x12 ← (pure .bag); let x13 ← (do let x10 ← (pure (.int 4)); let x11 ← (pure []); pure (x10 :: x11)); pure (x12 :: x13)); takeD x14); idxD x15 x16
def den__law_kind : List D → W D
  | [.bag] => dn__law_kind 
  | _ => stuck

def dn__law_rule  : W D := ((do let x3 ← (do let x1 ← (pure .bag); let x2 ← (pure []); pure (x1 :: x2)); den__law_kind x3) >>= fun s5 => ((do let x25 ← (pure (.int 1)); let x26 ← (do let x24 ← (do let x22 ← (pure .bag); let x23 ← (do let x20 ← (do let x18 ← (do let x12 ← (do let x10 ← (pure (.int 4)); let x11 ← (do let x8 ← (pure (.int 9)); let x9 ← (do let x6 ← (pure (.int 60)); let x7 ← (pure []); pure (x6 :: x7)); pure (x8 :: x9)); pure (x10 :: x11)); pure (.lst x12)); let x19 ← (do let x17 ← (do let x15 ← (pure .bag); let x16 ← (do let x13 ← (pure (.int 3)); let x14 ← (pure []); pure (x13 :: x14)); pure (x15 :: x16)); takeD x17); idxD x18 x19); let x21 ← (pure []); pure (x20 :: x21)); pure (x22 :: x23)); takeD x24); addD x25 x26) >>= fun s28 => ((do let t46 ← (do let x45 ← (do let x34 ← (pure s5); let x35 ← (do let x33 ← (do let x31 ← (pure (.str "hold")); let x32 ← (do let x29 ← (pure (.str "renew")); let x30 ← (pure []); pure (x29 :: x30)); pure (x31 :: x32)); pure (.tup x33)); let x36 ← inD x34 x35; boolD x36); if x45 then (do let x42 ← (do let x41 ← (do let x39 ← (pure .bag); let x40 ← (do let x37 ← (pure (.int 8)); let x38 ← (pure []); pure (x37 :: x38)); pure (x39 :: x40)); takeD x41); let x43 ← (pure (.int 0)); let x44 ← eqD x42 x43; boolD x44) else pure false); if t46 then ((do let x55 ← (pure (.int 1)); let x56 ← (do let x54 ← (do let x52 ← (pure .bag); let x53 ← (do let x50 ← (do let x48 ← (pure (.int 10)); let x49 ← (pure (.int 6)); powD x48 x49); let x51 ← (pure []); pure (x50 :: x51)); pure (x52 :: x53)); den__law_far_draw x54); addD x55 x56) >>= fun s58 => (pure s58)) else (pure s28)) >>= fun s59 => (do let x64 ← (do let x62 ← (pure s5); let x63 ← (do let x60 ← (pure s59); let x61 ← (pure []); pure (x60 :: x61)); pure (x62 :: x63)); pure (.tup x64)))))
def den__law_rule : List D → W D
  | [.bag] => dn__law_rule 
  | _ => stuck

def dn__law_log (v_most : D) : W D := ((do let x35 ← (do let x25 ← (do let x23 ← (pure (.str "a")); let x24 ← (do let x21 ← (pure (.str "b")); let x22 ← (do let x19 ← (pure (.str "c")); let x20 ← (do let x17 ← (pure (.str "dd")); let x18 ← (do let x15 ← (pure (.str "ee")); let x16 ← (do let x13 ← (pure (.str "ff")); let x14 ← (do let x11 ← (pure (.str "g")); let x12 ← (do let x9 ← (pure (.str "hh")); let x10 ← (do let x7 ← (pure (.str "zzzzzzzz")); let x8 ← (do let x5 ← (pure (.str "k")); let x6 ← (do let x3 ← (pure (.str "l")); let x4 ← (do let x1 ← (pure (.str "m")); let x2 ← (pure []); pure (x1 :: x2)); pure (x3 :: x4)); pure (x5 :: x6)); pure (x7 :: x8)); pure (x9 :: x10)); pure (x11 :: x12)); pure (x13 :: x14)); pure (x15 :: x16)); pure (x17 :: x18)); pure (x19 :: x20)); pure (x21 :: x22)); pure (x23 :: x24)); pure (.lst x25)); let x36 ← (pure none); let x37 ← (do let x33 ← (do let x31 ← (pure (.int 1)); let x32 ← (do let x30 ← (do let x28 ← (pure .bag); let x29 ← (do let x26 ← (pure (.int 12)); let x27 ← (pure []); pure (x26 :: x27)); pure (x28 :: x29)); takeD x30); addD x31 x32); let x34 ← intD x33; pure (some x34)); slcD x35 x36 x37) >>= fun s39 => ((do let x54 ← (do let x48 ← (do let x46 ← (pure (.int 1)); let x47 ← (do let x44 ← (pure (.int 2)); let x45 ← (do let x42 ← (pure (.int 5)); let x43 ← (do let x40 ← (pure (.int 2000)); let x41 ← (pure []); pure (x40 :: x41)); pure (x42 :: x43)); pure (x44 :: x45)); pure (x46 :: x47)); pure (.lst x48)); let x55 ← (do let x53 ← (do let x51 ← (pure .bag); let x52 ← (do let x49 ← (pure (.int 4)); let x50 ← (pure []); pure (x49 :: x50)); pure (x51 :: x52)); takeD x53); idxD x54 x55) >>= fun s57 => ((do let x63 ← (pure []); let x64 ← (do let x62 ← (do let x60 ← (pure .bag); let x61 ← (do let x58 ← (pure (.int 3)); let x59 ← (pure []); pure (x58 :: x59)); pure (x60 :: x61)); takeD x62); pure (x63, x64)) >>= fun s66 => ((do let ds ← (do let x76 ← (do let x74 ← (do let x73 ← (do let x71 ← (pure .bag); let x72 ← (do let x69 ← (do let x67 ← (pure v_most); let x68 ← (pure (.int 1)); addD x67 x68); let x70 ← (pure []); pure (x69 :: x70)); pure (x71 :: x72)); takeD x73); let x75 ← (pure []); pure (x74 :: x75)); rng1D x76); forW ds (s66.2, s66.1) fun d77 (s78 : D × List D) => pure d77 >>= fun t79 => ((do let x87 ← (pure s78.1); let x88 ← (do let x86 ← (do let x84 ← (pure .bag); let x85 ← (do let x82 ← (pure s57); let x83 ← (pure []); pure (x82 :: x83)); pure (x84 :: x85)); takeD x86); addD x87 x88) >>= fun s90 => ((do let x106 ← (do let x105 ← (do let x103 ← (pure s90); let x104 ← (do let x101 ← (do let x99 ← (pure s39); let x100 ← (do let x98 ← (do let x96 ← (pure .bag); let x97 ← (do let x94 ← (do let x93 ← (do let x91 ← (pure s39); let x92 ← (pure []); pure (x91 :: x92)); lenD x93); let x95 ← (pure []); pure (x94 :: x95)); pure (x96 :: x97)); takeD x98); idxD x99 x100); let x102 ← (pure []); pure (x101 :: x102)); pure (x103 :: x104)); pure (.tup x105)); need (List.length s78.2 < line) (pure (s78.2 ++ [x106]))) >>= fun s108 => (pure (s90, s108))))) >>= fun s109 => (do let x112 ← (do let x110 ← (pure (.lst s109.2)); let x111 ← (pure []); pure (x110 :: x111)); tupleD x112)))))
def den__law_log : List D → W D
  | [.bag, v_most] => dn__law_log v_most
  | _ => stuck

end DG

/-! ## DC2 -/
set_option Elab.async false
set_option linter.all false
set_option maxRecDepth 100000
set_option maxHeartbeats 4000000
namespace DG
open PySem PySem.Spec PyProof.Rows L2

def dn__law_last_names (v_names : D) (v_size : D) : W (List D) := ((pure []) >>= fun s2 => ((do let ds ← (do let x6 ← (do let x5 ← (do let x3 ← (pure v_names); let x4 ← lstD x3; pure x4.reverse); pure (.lst x5)); seqD x6); forW ds s2 fun d7 (s8 : List D) => pure d7 >>= fun t9 => ((do let t22 ← (do let x21 ← (do let x12 ← (pure t9); let x13 ← (pure (.lst s8)); let x14 ← notInD x12 x13; boolD x14); if x21 then (do let x18 ← (do let x17 ← (do let x15 ← (pure (.lst s8)); let x16 ← (pure []); pure (x15 :: x16)); lenD x17); let x19 ← (pure v_size); let x20 ← ltD x18 x19; boolD x20) else pure false); if t22 then ((do let x24 ← (pure t9); need (List.length s8 < line) (pure (s8 ++ [x24]))) >>= fun s26 => (pure s26)) else (pure s8)) >>= fun s27 => (pure s27))) >>= fun s28 => (pure s28)))
def den__law_last_names : List D → W (List D)
  | [v_names, v_size] => dn__law_last_names v_names v_size
  | _ => stuck

def dn__law_memory (v_rule : D) (v_past : D) (v_tick : D) : W (List D) := ((do let x4 ← (pure v_rule); (patTup 2 (patCons pure (patOne pure))) x4) >>= fun s6 => (do let t10 ← (do let x7 ← (pure s6.1); let x8 ← (pure (.str "last")); let x9 ← eqD x7 x8; boolD x9); if t10 then (do let x29 ← (do let x24 ← (do let ds21 ← (do let x11 ← (pure v_past); seqD x11); need (ds21.length ≤ line) (compW ds21 fun d19 => do let t18 ← (patTup 3 (patCons pure (patCons pure (patOne pure)))) d19; let c23 ← (do let x22 ← (pure t18.2.2); boolD x22); if c23 then (do let x20 ← (pure t18.2.1); pure (some x20)) else pure none)); pure (.lst x24)); let x30 ← (do let x27 ← (do let x25 ← (pure (.int 0)); let x26 ← (pure s6.2); subD x25 x26); let x28 ← intD x27; pure (some x28)); let x31 ← (pure none); let x32 ← lstD x29; pure (cutL x32 x30 x31)) else (do let t36 ← (do let x33 ← (pure s6.1); let x34 ← (pure (.str "recent")); let x35 ← eqD x33 x34; boolD x35); if t36 then (do let x53 ← (do let x51 ← (do let x48 ← (do let ds47 ← (do let x37 ← (pure v_past); seqD x37); need (ds47.length ≤ line) (compW ds47 fun d45 => do let t44 ← (patTup 3 (patCons pure (patCons pure (patOne pure)))) d45; let x46 ← (pure t44.2.1); pure (some x46))); pure (.lst x48)); let x52 ← (do let x49 ← (pure s6.2); let x50 ← (pure []); pure (x49 :: x50)); pure (x51 :: x52)); den__law_last_names x53) else ((pure []) >>= fun s55 => ((do let ds ← (do let x56 ← (pure v_past); seqD x56); forW ds s55 fun d57 (s58 : List D) => (patTup 3 (patCons pure (patCons pure (patOne pure)))) d57 >>= fun t59 => ((do let t81 ← (do let x80 ← (do let x68 ← (do let x66 ← (pure v_tick); let x67 ← (pure t59.1); subD x66 x67); let x69 ← (pure s6.2); let x70 ← ltD x68 x69; boolD x70); if x80 then (do let x79 ← (do let x71 ← (pure t59.2.1); let x72 ← (pure (.lst s58)); let x73 ← notInD x71 x72; boolD x73); if x79 then (do let x78 ← (do let x74 ← (pure t59.2.2); boolD x74); if x78 then pure true else (do let x75 ← (pure s6.1); let x76 ← (pure (.str "renew")); let x77 ← eqD x75 x76; boolD x77)) else pure false) else pure false); if t81 then ((do let x83 ← (pure t59.2.1); need (List.length s58 < line) (pure (s58 ++ [x83]))) >>= fun s85 => (pure s85)) else (pure s58)) >>= fun s86 => (pure s86))) >>= fun s87 => (pure s87))))))
def den__law_memory : List D → W (List D)
  | [v_rule, v_past, v_tick] => dn__law_memory v_rule v_past v_tick
  | _ => stuck

def dn__law_past (v_rule : D) (v_log : D) : W (List D) := ((pure []) >>= fun s2 => ((do let ds ← (do let x3 ← (pure v_log); seqD x3); forW ds s2 fun d4 (s5 : List D) => (patTup 2 (patCons pure (patOne pure))) d4 >>= fun t6 => ((do let x27 ← (do let x26 ← (do let x24 ← (pure t6.1); let x25 ← (do let x22 ← (pure t6.2); let x23 ← (do let x20 ← (do let d ← (do let x18 ← (pure t6.2); let x19 ← (do let x17 ← (do let x15 ← (pure v_rule); let x16 ← (do let x13 ← (pure (.lst s5)); let x14 ← (do let x11 ← (pure t6.1); let x12 ← (pure []); pure (x11 :: x12)); pure (x13 :: x14)); pure (x15 :: x16)); (do let r ← den__law_memory x17; pure (.lst r))); notInD x18 x19); flatW d); let x21 ← (pure []); pure (x20 :: x21)); pure (x22 :: x23)); pure (x24 :: x25)); pure (.tup x26)); need (List.length s5 < line) (pure (s5 ++ [x27]))) >>= fun s29 => (pure s29))) >>= fun s30 => (pure s30)))
def den__law_past : List D → W (List D)
  | [v_rule, v_log] => dn__law_past v_rule v_log
  | _ => stuck

def dn__law_flags (v_rule : D) (v_log : D) : W (List D) := do let ds16 ← (do let x6 ← (do let x5 ← (do let x3 ← (pure v_rule); let x4 ← (do let x1 ← (pure v_log); let x2 ← (pure []); pure (x1 :: x2)); pure (x3 :: x4)); (do let r ← den__law_past x5; pure (.lst r))); seqD x6); need (ds16.length ≤ line) (compW ds16 fun d14 => do let t13 ← (patTup 3 (patCons pure (patCons pure (patOne pure)))) d14; let x15 ← (pure t13.2.2); pure (some x15))
def den__law_flags : List D → W (List D)
  | [v_rule, v_log] => dn__law_flags v_rule v_log
  | _ => stuck

def dn__law_slips (v_log : D) (v_flags : D) : W (List D) := ((pure []) >>= fun s2 => ((do let ds ← (do let x3 ← (pure v_flags); enumD x3); forW ds s2 fun d4 (s5 : List D) => (patTup 2 (patCons pure (patOne pure))) d4 >>= fun t6 => ((do let ds23 ← (do let x13 ← (do let x11 ← (pure t6.1); let x12 ← (pure []); pure (x11 :: x12)); rng1D x13); need (ds23.length ≤ line) (compW ds23 fun d21 => do let t16 ← pure d21; let c27 ← (do let x26 ← (do let x24 ← (pure v_flags); let x25 ← (pure t16); idxD x24 x25); boolD x26); if c27 then (do let x22 ← (do let x19 ← (do let x17 ← (pure v_log); let x18 ← (pure t16); idxD x17 x18); let x20 ← (pure (.int 1)); idxD x19 x20); pure (some x22)) else pure none)) >>= fun s29 => ((do let t39 ← (do let x38 ← (do let x30 ← (pure t6.2); boolD x30); if x38 then (do let x35 ← (do let x33 ← (do let x31 ← (pure v_log); let x32 ← (pure t6.1); idxD x31 x32); let x34 ← (pure (.int 1)); idxD x33 x34); let x36 ← (pure (.lst s29)); let x37 ← inD x35 x36; boolD x37) else pure false); if t39 then ((do let x41 ← (pure t6.1); need (List.length s5 < line) (pure (s5 ++ [x41]))) >>= fun s43 => (pure s43)) else (pure s5)) >>= fun s44 => (pure s44)))) >>= fun s45 => (pure s45)))
def den__law_slips : List D → W (List D)
  | [v_log, v_flags] => dn__law_slips v_log v_flags
  | _ => stuck

end DG

/-! ## DG26 -/
set_option Elab.async false
set_option linter.all false
set_option maxRecDepth 100000
set_option maxHeartbeats 4000000
namespace DG
open PySem PySem.Spec PyProof PyProof.Rows L2 HotX L2H
/-! ### try: call(a, b, c), except DedupError as e: .. -/
/-- s0 where m ends, the class and True where m raises one of xs -/
def catchG (xs : List Str) (s0 : List D) (m : W D) : W (List D) := fun Q _ => m (fun _ => Q s0) fun x => x ∈ xs ∧ Q [.str x, .bl true]
abbrev catchF (xs : List Str) (m : W D) : W (List D) := catchG xs [] m
def SpErr (P : Program) (w : World) (K : PySem.W.Frag) (mg : Str → Option Value) (base : Heap) (k : Nat) (xs : List Str) (den : List D → W D) : Sp := fun vs H Q _ => ∃ f fd ps, FnOk P w K mg base (L2N.CX P w) k f fd ps (SpD K mg 3 den) ∧ PySem.W.keepIn K (.ref f) = true ∧ Binds K fd ps [] ∧
  ∃ (Mb B : Addr → Prop) (a b c : D) (va vb vc : V) (P' : List D → Prop), vs = [.ref f, va, vb, vc] ∧ Ok Mb Mb B H ∧ IsL K Mb B H [a, b, c] [va, vb, vc] ∧ catchF xs (den [a, b, c]) P' (fun _ => False) ∧
    (∀ d p ws H', P' d → Go Mb Mb B H H' → H p = none → H' p = some (.lst ws) → IsL K (fun a => Mb a ∨ a = p) B H' d ws → Q (.ref p) H')
/-- the def _law_error -/
structure DefE (P : Program) (w : World) (K : PySem.W.Frag) (mg : Str → Option Value) (base : Heap) (k : Nat) (xs : List Str) : Prop where
  ex : ∃ f fd, (∀ den, FnOk P w K mg base (L2N.CX P w) (k + 1) f fd ["call", "a", "b", "c"] (SpErr P w K mg base k xs den)) ∧ mg "_law_error" = some (.ref f) ∧ PySem.W.keepIn K (.ref f) = true ∧ Binds K fd ["call", "a", "b", "c"] []
section
variable {X : Cx} {E : XK} {ρ : List SV} {pos : Pos} {k j : Nat}
/-- _law_error(f, a, b, c), f a def of the module -/
theorem ef_err {xs : List Str} {x : Str} {ps : List Str} {den : List D → W D} {p px : Pos} {e1 e2 e3 : Expr} {ma : W (List D)} (FE : DefE X.prog X.w X.K X.mg X.base k xs) (F : DefD X.prog X.w X.K X.mg X.base k x ps (SpD X.K X.mg ps.length den)) (G : Cg X E j) (hk : k + 1 ≤ j) (ha : EA X E [e1, e2, e3] ρ ma)
    (hps : ps.length = 3 := by rfl) (hg : Gl X "_law_error" := by rfl) (hgx : Gl X x := by rfl) (hdx : (x == ("__debug__" : Str)) = false := by decide) (he : starEach [.Name x px, e1, e2, e3] X.env = (false, eval (.Name x px) X.env) :: starEach [e1, e2, e3] X.env := by rfl)
    (hpl : (backTo pos (starEach [e1, e2, e3] X.env)).any (·.1) = false := by rfl) : EF X E (.Call (.Name "_law_error" p) [.Name x px, e1, e2, e3] [] pos) ρ (do let ds ← ma; catchF xs (den ds)) := by
  intro Mb M B σ H P EE Q o rp pm q ee
  obtain ⟨f, fd, Fn, hm, hkp, hb⟩ := FE.ex
  obtain ⟨g, gd, Gn, gm, gkp, gb⟩ := F.ex
  rw [hps] at Gn
  refine of_pe (pe_call ((Fn den).mono hk) G.room hg hm hkp hb .nil G.pass (pa_cons (pe_glob hgx gm (v := .ref g) rfl hdx) pa_w he) (by decide) he hpl) ?_
  refine ha Mb M B σ H (fun ds => catchF xs (den ds) P EE) EE _ o rp pm (fun ds vs H1 pd g1 il nl => ?_) ee
  match vs, ds, nl, il with
  | [va, vb, vc], [a, b, c], _, il =>
    exact ⟨g, gd, ps, Gn, gkp, gb, M, B, a, b, c, va, vb, vc, P, by rw [List.append_nil], g1.ok.base, il, pd, fun d p ws H2 p2 g2 n l i => q d p ws H2 p2 (g1.trans (Go.base g1.ok g2)) (g1.free o n) l i⟩
  | [_, _, _], [], _, il => exact absurd il.len (by simp)
  | [_, _, _], [_], _, il => exact absurd il.len (by simp)
  | [_, _, _], [_, _], _, il => exact absurd il.len (by simp)
  | [_, _, _], _ :: _ :: _ :: _ :: _, _, il => exact absurd il.len (by simp)
theorem s1_try {xs : List Str} {den : List D → W D} {f : Addr} {fd : FuncData} {ps : List Str} {da db dc : D} {rest : List SV} {xc xa xb xd : Str} {b₀ : Stmt} {suite : List Stmt} {n : Str} {i : Nat} {p0 p1 p2 p3 p4 p5 np pos' : Pos} {mk mkS : List D → List SV} {cd : Value} {s0 : List D}
    (C : Cd X E k) (hs : X.stack = X.env :: X.outer) (hfr : X.env.frame = some X.env.locals) (F : FnOk X.prog X.w X.K X.mg X.base (L2N.CX X.prog X.w) k f fd ps (SpD X.K X.mg 3 den)) (hkp : PySem.W.keepIn X.K (.ref f) = true) (hb : Binds X.K fd ps [])
    (herr : ∀ x ∈ xs, ErrC X.K X.mg x) (hcd : X.mg "DedupError" = some cd) (hρ : ρ = .d (.fn f) :: .d da :: .d db :: .d dc :: rest) (hnx : ρ = mk s0)
    (hsu : ∀ x ∈ xs, ∀ (a Cx' : Addr) (oe : Obj) (pn : List (Addr × Obj)), L2.ExcC X.K Cx' → (∀ y ∈ errNames, ∃ Cy, X.mg y = some (.ref Cy) ∧ PySem.W.kitOne X.K (.ref Cx') (.ref Cy) = some (decide (x = y))) → PySem.W.kitOne X.K (.ref Cx') (.type "ValueError") = some true → Zc (.ref Cx') none oe → (∃ vs, oe.data = .fields vs) → HotC (Su X a oe pn) →
      SN (Su X a oe pn) E0 (b₀ :: suite) (ρ.set i (.d (.fn a))) mkS (pure [.str x, .bl true])) (hmk : ∀ r, (mkS r).set i .no = mk r)
    (hN0 : X.N[0]? = some xc) (hNa : X.N[1]? = some xa) (hNb : X.N[2]? = some xb) (hNc : X.N[3]? = some xd) (hv0 : Vis X.env.scope xc) (hva : Vis X.env.scope xa) (hvb : Vis X.env.scope xb) (hvc : Vis X.env.scope xd)
    (hd0 : (xc == ("__debug__" : Str)) = false) (hda : (xa == ("__debug__" : Str)) = false) (hdb : (xb == ("__debug__" : Str)) = false) (hdc : (xd == ("__debug__" : Str)) = false) (hc0 : (xc == ("__classdict__" : Str)) = false) (hca : (xa == ("__classdict__" : Str)) = false) (hcb : (xb == ("__classdict__" : Str)) = false) (hcc : (xd == ("__classdict__" : Str)) = false)
    (st1 : starEach [.Name xa p1, .Name xb p2, .Name xd p3] X.env = (false, eval (.Name xa p1) X.env) :: starEach [.Name xb p2, .Name xd p3] X.env) (st2 : starEach [.Name xb p2, .Name xd p3] X.env = (false, eval (.Name xb p2) X.env) :: starEach [.Name xd p3] X.env) (st3 : starEach [.Name xd p3] X.env = (false, eval (.Name xd p3) X.env) :: starEach [] X.env)
    (hpl : (backTo p4 (starEach [.Name xb p2, .Name xd p3] X.env)).any (·.1) = false) (hsw : swapsWith (.Call (.Name xc p0) [.Name xa p1, .Name xb p2, .Name xd p3] [] p4) none p5.line X.env = pure false) (hNi : X.N[i]? = some n) (hln : X.env.kindOf n = some .local) (hgd : Gl X "DedupError") :
    S1 X E (.Try [.Expr (.Call (.Name xc p0) [.Name xa p1, .Name xb p2, .Name xd p3] [] p4) p5] [.ExceptHandler (some (.Name "DedupError" np)) (some n) (b₀ :: suite) pos'] [] [] pos) ρ mk (catchG xs s0 (den [da, db, dc])) := by
  intro Mb B Hb M σ H P EE D bs o r p en ee
  let ts : Addr → Value → Option Addr → TS := fun a cls d D σ H => ∀ oe pn, L2N.Zn cls d oe → (∃ vs, oe.data = .fields vs) → wSs (Su X a oe pn) (b₀ :: suite) D σ H
  let tb : WX → TS := fun W => tSeq (tDrop (tCallLS 0 f (SpD X.K X.mg 3 den) (WE W) (tCons (tVar 1) (tCons (tVar 2) (tCons (tVar 3) tNil))))) tNext
  refine of_ps (L2N.ps_try_as (ts := ts) (tb := tb) (Wout := fun cls d _ H => E cls d H) hs hfr C.nd hNi hln ⟨hgd, by decide, .inl hcd⟩ C.takes (fun W pn xe tk own => ?_) fun a oe cls d pn hz hf => ⟨fun pins s σ H D I h => (h oe pn hz hf).run pins s I⟩) ?_
  · exact pss_cons (ps_expr (pe_callLS (X := X.tr pn xe) F C.room hN0 hv0 hkp hb (fun σ => L2N.passAt tk σ) (pa_cons (pe_var (X := X.tr pn xe) hNa hva hda hca) (pa_cons (pe_var (X := X.tr pn xe) hNb hvb hdb hcb) (pa_cons (pe_var (X := X.tr pn xe) hNc hvc hdc hcc) pa_nil st3) st2) st1) hd0 hc0 st1 hpl) hsw) pss_nil
  obtain ⟨v0, ev0, iv0⟩ := r.get (i := 0) (d := .fn f) (by rw [hρ]; rfl)
  have iv0 : v0 = .ref f := iv0
  obtain ⟨va, eva, iva⟩ := r.get (i := 1) (d := da) (by rw [hρ]; rfl)
  obtain ⟨vb, evb, ivb⟩ := r.get (i := 2) (d := db) (by rw [hρ]; rfl)
  obtain ⟨vc, evc, ivc⟩ := r.get (i := 3) (d := dc) (by rw [hρ]; rfl)
  refine ⟨by rw [ev0, iv0], va, eva, vb, evb, vc, evc, M, B, [da, db, dc], fun _ => P s0, fun x => x ∈ xs ∧ P [.str x, .bl true], rfl, o.base, ⟨va, _, rfl, iva, vb, _, rfl, ivb, vc, _, rfl, ivc, rfl⟩, p, fun d v H' pd g iv => ?_, fun x H' px g Cx' hCx => ?_⟩
  · have g := Go.base o g
    have r2 := r.go o g
    rw [hnx] at r2
    exact en s0 M σ H' pd (bs.go g) g.ok r2
  · obtain ⟨mx, px⟩ := px
    have g := Go.base o g
    obtain ⟨C', hC', hex, ⟨cd', hcd', hexm⟩, hk, hkv⟩ := (herr x mx).ex
    rw [hCx] at hC'
    cases hC'
    rw [hcd] at hcd'
    cases hcd'
    refine ⟨true, hexm, fun _ a na oe pn hz hf => ?_, fun z => by cases z⟩
    have rs := hsu x mx a Cx' oe pn hex hk hkv hz.zc hf (hot_su hz.2.2 hf)
    refine rs Mb B Hb M (σ.set i (some (.ref a))) H' (fun l => l = [.str x, .bl true]) (fun _ => False) _ (bs.go g) g.ok ((r.go o g).setD (i := i) (d := .fn a) (v := .ref a) rfl) rfl (fun l M' σ' H2 el b2 o2 r2 => ?_) fun _ _ z => z.elim
    subst el
    have r3 := r2.setNo (i := i) (o := none)
    rw [hmk] at r3
    exact en _ M' _ H2 px b2 o2 r3
end
end DG

/-! ## DG27 -/
set_option Elab.async false
set_option linter.all false
set_option maxRecDepth 100000
set_option maxHeartbeats 4000000
namespace DG
open PySem PySem.Spec PyProof PyProof.Rows L2 HotX L2H
section
variable {X : Cx} {E : XK} {ρ : List SV} {S T : Type} {s : Stmt} {rest : List Stmt}
/-- a statement of known value -/
theorem sn_val {mk1 : T → List SV} {mk : S → List SV} {m : W T} {n : W S} (v : T) (h : S1 X E s ρ mk1 m) (e : m = pure v) (hr : SN X E rest (mk1 v) mk n) : SN X E (s :: rest) ρ mk n := by
  intro Mb B Hb M σ H P EE D bs o r p en ee
  refine of_pss (pss_cons ps_w pss_w) ?_
  exact h Mb B Hb M σ H (fun t => t = v ∧ n P EE) EE _ bs o r (by rw [e]; exact ⟨rfl, p⟩) (fun t M' σ' H' pt b2 o2 r2 => by
    obtain ⟨rfl, pt⟩ := pt
    exact hr Mb B Hb M' σ' H' P EE D b2 o2 r2 pt en ee) ee
end
theorem sf_val {X : Cx} {E : XK} {ρ : List SV} {T : Type} {s : Stmt} {rest : List Stmt} {mk1 : T → List SV} {m : W T} {n : W (List D)} (v : T) (h : S1 X E s ρ mk1 m) (e : m = pure v) (hr : SF X E rest (mk1 v) n) : SF X E (s :: rest) ρ n := by
  intro Mb B Hb M σ H P EE D bs o r p er ee
  refine of_pss (pss_cons ps_w pss_w) ?_
  exact h Mb B Hb M σ H (fun t => t = v ∧ n P EE) EE _ bs o r (by rw [e]; exact ⟨rfl, p⟩) (fun t M' σ' H' pt b2 o2 r2 => by
    obtain ⟨rfl, pt⟩ := pt
    exact hr Mb B Hb M' σ' H' P EE D b2 o2 r2 pt er ee) ee
/-! ### the rows that _law_error writes -/
def errT (x y : Str) : D := .tup [.str y, .bl (decide (x = y))]
def errL (x : Str) (i j : Nat) : List D := ((errNames.take j).drop i).map (errT x)
theorem err_one : ∀ x ∈ errNames, (errNames.filter fun y => decide (x = y)) = [x] := by decide +kernel
theorem compW_err {x : Str} (hx : x ∈ errNames) : (compW (errNames.map (errT x)) fun d => do let t ← patTup 2 (patCons pure (patOne pure)) d; let b ← (do let z ← pure t.2; boolD z); if b then (do let z ← pure t.1; pure (some z)) else pure none) = pure [.str x] := by
  have : ∀ ys : List Str, (compW (ys.map (errT x)) fun d => do let t ← patTup 2 (patCons pure (patOne pure)) d; let b ← (do let z ← pure t.2; boolD z); if b then (do let z ← pure t.1; pure (some z)) else pure none) = pure ((ys.filter fun y => decide (x = y)).map D.str) := fun ys => by
    induction ys with
    | nil => rfl
    | cons y ys ih =>
      rw [List.filter_cons]
      by_cases e : x = y
      · rw [if_pos (decide_eq_true e), List.map_cons, List.map_cons]
        have h1 : errT x y = .tup [.str y, .bl true] := by unfold errT; rw [decide_eq_true e]
        rw [h1]
        show (do let xs ← compW (ys.map (errT x)) _; pure (D.str y :: xs)) = _
        rw [ih]
        all_goals rfl
      · rw [if_neg (by rw [decide_eq_true_eq]; exact e), List.map_cons]
        have h1 : errT x y = .tup [.str y, .bl false] := by unfold errT; rw [decide_eq_false e]
        rw [h1]
        show (do let xs ← compW (ys.map (errT x)) _; pure xs) = _
        rw [ih]
        all_goals rfl
  rw [this errNames, err_one x hx]
  rfl
theorem cat_val {a b : List D} (h : a.length + b.length ≤ line) : (do let x ← (pure (D.lst a) : W D); let y ← (do let xs ← (pure b : W (List D)); pure (D.lst xs)); let ds ← lstD x; let es ← lstD y; need (ds.length + es.length ≤ line) (pure (ds ++ es))) = pure (a ++ b) := need_of h
theorem ex_lstEq {X : Cx} {E : XK} {ρ : List SV} {e : Expr} {ds es : List D} (h : EX X E e ρ (pure (.lst ds))) (eq : ds = es) : EX X E e ρ (pure (.lst es)) := by rw [← eq]; exact h
def errSuite (st : Stmt) : List Stmt := match defBody st with
  | [_, .Try _ [.ExceptHandler _ _ su _] _ _ _, _] => su
  | _ => []
section
variable {P : Program} {w : World} {K : PySem.W.Frag} {mg : Str → Option Value} {base : Heap}
theorem def_okE {st : Stmt} {N : List Str} {k : Nat} {xs : List Str} (F : Pk K mg "_law_error" st ["call", "a", "b", "c"]) (S : FnScope N ["call", "a", "b", "c"] (defScope st)) (hN : N.length = 9)
    (body : ∀ fa cdv A outer s H E, Cd (cx P w K mg base N "_law_error" st fa cdv A outer s H E) E k → ∀ (f : Addr) (fd : FuncData) (ps : List Str) (den : List D → W D), FnOk P w K mg base (L2N.CX P w) k f fd ps (SpD K mg 3 den) → PySem.W.keepIn K (.ref f) = true → Binds K fd ps [] → ∀ da db dc,
      SF (cx P w K mg base N "_law_error" st fa cdv A outer s H E) E (defBody st) [.d (.fn f), .d da, .d db, .d dc, .no, .no, .no, .no, .no] (catchF xs (den [da, db, dc]))) : DefE P w K mg base k xs := by
  obtain ⟨fe, fde, Fe, hm, hb⟩ := F.ex
  refine ⟨fe, fde, fun den => fun_okN Fe S (fun vs H Q E h => ?_) (fun cdv A outer s H vs Q E hr h => ?_), hm, Fe.kp, hb⟩
  · obtain ⟨f, fd, ps, _, _, _, Mb, B, a, b, c, va, vb, vc, P', e, _⟩ := h
    rw [e]
    rfl
  · obtain ⟨f, fd, ps, Fn, kp, bb, Mb, B, a, b, c, va, vb, vc, P', e, o, il, p, q⟩ := h
    subst e
    refine ⟨_, pss_w, ?_⟩
    have C := cd_of (P := P) (w := w) (K := K) (mg := mg) (base := base) (outer := outer) (H := H) (E := E) S.nd hr
    have il' : IsL K Mb B H [.fn f, a, b, c] [.ref f, va, vb, vc] := ⟨.ref f, _, rfl, rfl, il⟩
    have r := startRp (N := N) il'
    rw [hN] at r
    exact body fe cdv A outer s H E C f fd ps den Fn kp bb a b c Mb B H Mb _ H P' (fun _ => False) _ ⟨.refl, fun _ m => .inl m⟩ o r p (fun d p v H' pd sb o' n l iv => q d p v H' pd ⟨sb, o'⟩ n l iv) fun _ _ z => z.elim
end
end DG

/-! ## DG28 -/
set_option Elab.async false
set_option linter.all false
set_option maxRecDepth 100000
set_option maxHeartbeats 4000000
namespace DG
open PySem PySem.Spec PyProof PyProof.Rows L2
/-! ### xs[i] = v, xs an own list -/
theorem IsL.setAt {K : PySem.W.Frag} {M B : Addr → Prop} {H : Hp} : ∀ {ds : List D} {vs : List V} {j : Nat} {d : D} {v : V}, IsL K M B H ds vs → Is K M B H d v → IsL K M B H (ds.set j d) (vs.set j v)
  | [], _, _, _, _, h, _ => by
    have h : _ = [] := h
    subst h
    exact rfl
  | x :: ds, _, 0, d, v, ⟨y, r, e, h1, h2⟩, i => by
    subst e
    exact ⟨v, r, rfl, i, h2⟩
  | x :: ds, _, j + 1, d, v, ⟨y, r, e, h1, h2⟩, i => by
    subst e
    exact ⟨y, r.set j v, rfl, h1, IsL.setAt h2 i⟩
def lput (ds : List D) (i v : D) : W (List D) := match i with
  | .int k => optW (ixN ds.length k) fun j => pure (ds.set j v)
  | _ => stuck
theorem s1_lput {X : Cx} {E : XK} {ρ : List SV} {pos pos' p1 : Pos} (i : Nat) {x : Str} {ve ke : Expr} {mv mi : W D} {ds : List D} {mk : List D → List SV} (h0 : ρ[i]? = some (.own ds)) (hve : EX X E ve ρ mv) (hke : EX X E ke ρ mi) (h : ∀ d, ρ.set i (.own d) = mk d := by intros; rfl) (hN : X.N[i]? = some x := by rfl)
    (hv : Vis X.env.scope x := by first | exact Or.inl rfl | exact Or.inr (Or.inl rfl) | exact Or.inr (Or.inr rfl)) (hd : (x == ("__debug__" : Str)) = false := by decide) (hcd : (x == ("__classdict__" : Str)) = false := by decide)
    (hs : swapsWithSole [.Subscript (.Name x p1) ke pos'] ve pos.line X.env = pure false := by rfl) (hw : swappedStores [.Subscript (.Name x p1) ke pos'] ve X.env = pure none := by rfl) (h1 : (assignEach [.Subscript (.Name x p1) ke pos'] X.env).map (·.2) = [assign (.Subscript (.Name x p1) ke pos') X.env] := by rfl)
    (ha : ∀ v, assign (.Subscript (.Name x p1) ke pos') X.env v = (do
      let ov ← holding [v] (eval (.Name x p1) X.env)
      let iv ← holding [v, ov] (eval ke X.env)
      standAt pos'
      holding [v, ov, iv] (setItem ov iv v)
      release [v, ov, iv] []) := by intro _; rfl) : S1 X E (.Assign [.Subscript (.Name x p1) ke pos'] ve pos) ρ mk (do let v ← mv; let k ← mi; lput ds k v) := by
  intro Mb B Hb M σ H P EE D bs o r p en ee
  refine of_ps (ps_asg pe_w (pg_sub (pe_var hN hv hd hcd) pe_w set_list ha) hs hw h1) ?_
  refine hve Mb M B σ H (fun v => (do let k ← mi; lput ds k v : W (List DG.D)) P EE) EE _ o r p (fun d v H1 pd g iv => ?_) (ee.post bs)
  obtain ⟨y, e0, c, vs, e1, mp, np, l, il⟩ := (r.go o g).sl i _ h0
  rw [e1] at e0
  refine ⟨_, e0, hke Mb M B σ H1 (fun k => (lput ds k d : W (List DG.D)) P EE) EE _ g.ok (r.go o g) pd (fun k w H2 pk g2 iw => ?_) (ee.post (bs.go g))⟩
  have l2 : H2 c = some (.lst vs) := g2.ext.k c _ l fun b => np (o.bm c b)
  have il2 := il.mono g2.ext g.ok
  have pk : lput ds k d P EE := pk
  obtain ⟨n, j, rfl, hj, pk⟩ : ∃ n j, k = .int n ∧ ixN ds.length n = some j ∧ P (ds.set j d) := by
    cases k with
    | int n =>
      have pk : (optW (ixN ds.length n) fun j => pure (ds.set j d) : W (List DG.D)) P EE := pk
      cases hj : ixN ds.length n with
      | none => rw [hj] at pk; exact pk.elim
      | some j => rw [hj] at pk; exact ⟨n, j, rfl, hj, pk⟩
    | _ => exact pk.elim
  have iw : w = .int n := iw
  subst iw
  refine ⟨c, vs, n, j, rfl, rfl, l2, by rw [il.len]; exact hj, ?_⟩
  have kp : Kept M M H2 (L2.upd H2 c (.lst (vs.set j v))) := .put mp l2 not_imm_lst
  have r3 := ((r.go o g).go g.ok g2).upd (i := i) (sv := .own (ds.set j d)) (u := .lst (vs.set j v)) h0 rfl e0 mp l2 not_imm_lst ⟨c, _, rfl, mp, np, upd_same, kp.isL (il2.setAt (iv.mono g2.ext g.ok))⟩
  rw [h] at r3
  exact en _ M σ _ pk (((bs.go g).go g2).upd mp np) (g2.ok.put mp np not_imm_lst) r3
/-- list(range(a, b)) -/
def lrngD : D → D → W (List D)
  | .int a, .int b => need (RgOk a b) (pure ((List.range (b - a).toNat).map fun i : Nat => .int (a + i)))
  | _, _ => stuck
theorem ef_listRg {X : Cx} {E : XK} {ρ : List SV} {pos p p2 pos2 : Pos} {a b : Expr} {ma mb : W D} (ha : EX X E a ρ ma) (hb : EX X E b ρ mb) (hc : X.calm = true) (hl : X.mg "list" = none) (hr : X.mg "range" = none) (gl : Gl X "list" := by rfl) (gr : Gl X "range" := by rfl)
    (na : starEach [a, b] X.env = (false, eval a X.env) :: starEach [b] X.env := by rfl) (nb : starEach [b] X.env = (false, eval b X.env) :: starEach [] X.env := by rfl) (hp : (backTo pos2 (starEach [b] X.env)).any (·.1) = false := by rfl)
    (nc : starEach [.Call (.Name "range" p2) [a, b] [] pos2] X.env = (false, eval (.Call (.Name "range" p2) [a, b] [] pos2) X.env) :: starEach [] X.env := by rfl) : EF X E (.Call (.Name "list" p) [.Call (.Name "range" p2) [a, b] [] pos2] [] pos) ρ (do let x ← ma; let y ← mb; lrngD x y) := by
  intro Mb M B σ H P EE Q o r pm q ee
  refine of_pe (pe_listRg hc gl hl (prg_2 gr hr pe_w pe_w na nb hp) nc) ?_
  refine ha Mb M B σ H (fun x => (do let y ← mb; lrngD x y : W (List D)) P EE) EE _ o r pm (fun x vx H1 px g1 ix => ?_) ee
  refine hb Mb M B σ H1 (fun y => (lrngD x y : W (List D)) P EE) EE _ g1.ok (r.go o g1) px (fun y vy H2 py g2 iy => ?_) (ee.go g1)
  have py : lrngD x y P EE := py
  obtain ⟨i, j, rfl, rfl, ok, py⟩ : ∃ i j, x = .int i ∧ y = .int j ∧ RgOk i j ∧ P ((List.range (j - i).toNat).map fun n : Nat => .int (i + n)) := by
    cases x with
    | int i =>
      cases y with
      | int j => exact ⟨i, j, rfl, rfl, py.1, py.2⟩
      | _ => exact py.elim
    | _ => exact py.elim
  have ix : vx = .int i := ix
  have iy : vy = .int j := iy
  have il : ∀ ns : List Nat, IsL X.K M B H2 (ns.map fun n : Nat => D.int (i + n)) (ns.map fun n : Nat => V.int (i + n)) := fun ns => by
    induction ns with
    | nil => exact rfl
    | cons n ns ih => exact ⟨.int (i + n), _, rfl, rfl, ih⟩
  exact ⟨i, j, ix, iy, ok, fun c n => (q.go o (g1.trans g2)).new g2.ok py (il _) n⟩
end DG

/-! ## DG30 -/
set_option Elab.async false
set_option linter.all false
set_option maxRecDepth 100000
set_option maxHeartbeats 4000000
namespace DG
open PySem PySem.Spec PyProof.Rows L2

/-! ### [x and ys.pop(0) for x in xs], ys an own list, handed back -/
def popW : List D → List D → W (List D)
  | [], _ => pure []
  | .bl false :: r, ys => do let t ← popW r ys; pure (.bl false :: t)
  | .bl true :: r, y :: ys => need (y.flat = true) (do let t ← popW r ys; pure (y :: t))
  | _, _ => stuck
section
variable {K : PySem.W.Frag} {Mb M M' B : Addr → Prop} {H H' : Hp} {ρ : List SV} {σ : L2.St}
theorem Rp.keepA (r : Rp K Mb M B σ H ρ) (k : Kept M M' H H') (hm : ∀ a, M a → M' a) (ho : ∀ (j : Nat) (s : SV) (p : Addr), ρ[j]? = some s → s.isOwn = true → σ[j]? = some (some (.ref p)) → H' p = H p) : Rp K Mb M' B σ H' ρ where
  len := r.len
  sl := fun i s e => by
    obtain ⟨o, e1, q⟩ := r.sl i s e
    refine ⟨o, e1, ?_⟩
    cases s with
    | no => trivial
    | d d =>
      obtain ⟨v, e2, i2⟩ := q
      exact ⟨v, e2, Is.keep k (fun _ b => b) _ _ i2⟩
    | own ds =>
      obtain ⟨p, vs, e2, m, n, l, il⟩ := q
      exact ⟨p, vs, e2, hm p m, n, by rw [ho i _ p e rfl (by rw [e1, e2])]; exact l, k.isL il⟩
    | dct kvs =>
      obtain ⟨p, vs, e2, m, n, l, il⟩ := q
      exact ⟨p, vs, e2, hm p m, n, by rw [ho i _ p e rfl (by rw [e1, e2])]; exact l, il.keep k⟩
  dis := r.dis
end
theorem pop_elt {Y : Cx} {x y : Str} {p1 p2 p3 p4 p5 p6 : Pos} {kk : Nat} {i j : Nat} {σ : L2.St} {H : Hp} {Q : VK} {b : Bool} {q : Addr} {v : V} {vs : List V}
    (hNj : Y.N[j]? = some x) (hvj : Vis Y.env.scope x) (hdj : (x == ("__debug__" : Str)) = false) (hcj : (x == ("__classdict__" : Str)) = false)
    (hNi : Y.N[i]? = some y) (hvi : Vis Y.env.scope y) (hdi : (y == ("__debug__" : Str)) = false) (hci : (y == ("__classdict__" : Str)) = false)
    (hbase : attributeBase (.Name y p2) "pop" Y.env (eval (.Name y p2) Y.env) = eval (.Name y p2) Y.env)
    (hfew : ((backTo p5 (starEach [.Constant (.int 0) kk p4] Y.env)).all (fun x => !x.1) && (backToKw p5 (keywordEach [] Y.env)).all (fun x => x.1.isSome)
      && decide ([Expr.Constant (.int 0) kk p4].length + ([] : List Keyword).length + (if ([] : List Keyword).isEmpty then 0 else 1) < 30)) = true)
    (hline : (p3.endLine == p5.line) = true) (hst : starEach [.Constant (.int 0) kk p4] Y.env = (false, eval (.Constant (.int 0) kk p4) Y.env) :: starEach [] Y.env) (hplain : (backTo p5 (starEach [] Y.env)).any (·.1) = false)
    (hj : σ[j]? = some (some (.bl b))) (hi : σ[i]? = some (some (.ref q))) (h : if b = true then H q = some (.lst (v :: vs)) ∧ Q v (upd H q (.lst vs)) else Q (.bl false) H) :
    wE Y (.BoolOp .And [.Name x p1, .Call (.Attribute (.Name y p2) "pop" p3) [.Constant (.int 0) kk p4] [] p5] p6) σ H Q := by
  refine of_pe (pe_and (pe_var hNj hvj hdj hcj) (pe_one (pe_bm PySem.F.plainAttrs_list PySem.F.slot_list_pop PySem.F.type_list_pop mt_popAt (pe_var hNi hvi hdi hci) (pa_cons pe_int pa_nil hst) hbase hfew hline hst hplain))) ?_
  refine ⟨.bl b, hj, b, rfl, ?_⟩
  cases b with
  | false => exact h
  | true =>
    obtain ⟨h1, h2⟩ : H q = some (.lst (v :: vs)) ∧ Q v (upd H q (.lst vs)) := h
    refine ⟨.ref q, hi, .inl ⟨rfl, v :: vs, .of h1⟩, ?_⟩
    exact ⟨q, v :: vs, 0, 0, v, rfl, rfl, h1, by decide, by decide, by simp [seqIndex?], rfl, h2⟩
section
variable {X : Cx} {E : XK} {ρ ρw : List SV} {pos : Pos} {k : Nat}
theorem sf_popL (i j : Nat) {x y : Str} {tg iter : Expr} {scope : Scope} {lpos p1 p2 p3 p4 p5 p6 : Pos} {kk : Nat} {mi : W (List D)} {ls : List D} {rest : List Stmt} (G : Cg X E k)
    (hi : IX X E tg iter ρ mi) (ok : BlkOk X.N X.env.scope scope [(x, j)]) (hg : ∀ s H0 C cl fp ρ', GX (Bk X scope s H0 C cl fp) tg [j] ρ' pure (fun d => ρ'.set j (.d d)))
    (h0 : ρ[i]? = some (.own ls)) (hij : i ≠ j) (hj : j < ρ.length)
    (hNj : X.N[j]? = some x := by rfl) (hNi : X.N[i]? = some y := by rfl)
    (hvj : ∀ s H0 C cl fp, Vis (Bk X scope s H0 C cl fp).env.scope x := by intro _ _ _ _ _; first | exact Or.inl rfl | exact Or.inr (Or.inl rfl) | exact Or.inr (Or.inr rfl))
    (hvi : ∀ s H0 C cl fp, Vis (Bk X scope s H0 C cl fp).env.scope y := by intro _ _ _ _ _; first | exact Or.inl rfl | exact Or.inr (Or.inl rfl) | exact Or.inr (Or.inr rfl))
    (hdj : (x == ("__debug__" : Str)) = false := by decide) (hcj : (x == ("__classdict__" : Str)) = false := by decide)
    (hdi : (y == ("__debug__" : Str)) = false := by decide) (hci : (y == ("__classdict__" : Str)) = false := by decide)
    (hbase : ∀ s H0 C cl fp, attributeBase (.Name y p2) "pop" (Bk X scope s H0 C cl fp).env (eval (.Name y p2) (Bk X scope s H0 C cl fp).env) = eval (.Name y p2) (Bk X scope s H0 C cl fp).env := by intro _ _ _ _ _; rfl)
    (hfew : ∀ s H0 C cl fp, ((backTo p5 (starEach [.Constant (.int 0) kk p4] (Bk X scope s H0 C cl fp).env)).all (fun x => !x.1) && (backToKw p5 (keywordEach [] (Bk X scope s H0 C cl fp).env)).all (fun x => x.1.isSome)
      && decide ([Expr.Constant (.int 0) kk p4].length + ([] : List Keyword).length + (if ([] : List Keyword).isEmpty then 0 else 1) < 30)) = true := by intro _ _ _ _ _; rfl)
    (hline : (p3.endLine == p5.line) = true := by rfl) (hst : ∀ s H0 C cl fp, starEach [.Constant (.int 0) kk p4] (Bk X scope s H0 C cl fp).env = (false, eval (.Constant (.int 0) kk p4) (Bk X scope s H0 C cl fp).env) :: starEach [] (Bk X scope s H0 C cl fp).env := by intro _ _ _ _ _; rfl)
    (hplain : ∀ s H0 C cl fp, (backTo p5 (starEach [] (Bk X scope s H0 C cl fp).env)).any (·.1) = false := by intro _ _ _ _ _; rfl)
    (hf : ∀ x, foldedSetIterable iter X.env x = pure x := by intro _; rfl) :
    SF X E (.Return (some (.ListComp (.BoolOp .And [.Name x p1, .Call (.Attribute (.Name y p2) "pop" p3) [.Constant (.int 0) kk p4] [] p5] p6) [⟨tg, iter, [], 0⟩] scope lpos)) pos :: rest) ρ (do let ds ← mi; need (ds.length ≤ line) (popW ds ls)) := by
  intro Mb B Hb M σ H P EE D bs o r p er ee
  refine of_pss (pss_cons (ps_ret (pe_lc (g := gAll X scope tg) (tt := tYes) (te := eAll X scope (.BoolOp .And [.Name x p1, .Call (.Attribute (.Name y p2) "pop" p3) [.Constant (.int 0) kk p4] [] p5] p6)) G.calm G.nd pi_w ok
    (fun s H0 C cl fp => ⟨fun pins s' σ' H' v u Q' I r h => (h s H0 C cl fp).run pins s' u I r⟩) (fun _ _ _ _ _ => pts_nil) (fun s H0 C cl fp => ⟨fun pins s' σ' H' Q' I h => (h s H0 C cl fp).run pins s' I⟩) hf)) pss_never) ?_
  refine hi Mb M B σ H (fun ds => (need (ds.length ≤ line) (popW ds ls) : W (List DG.D)) P EE) EE _ o r p (fun ds J H1 pd g1 wk Dl nD => ?_) (ee.post bs)
  obtain ⟨hl, pd⟩ := pd
  let vs : List Nat := [j]
  let ρw : List SV := ρ.set j .no
  have rw1 : Rp X.K Mb M B (L2.wipe σ vs) H1 ρw := (r.go o g1).wipe vs
  have nM : ¬ M Dl := g1.ok.nm nD
  have nB : ¬ B Dl := fun b => nM (g1.ok.mm _ (g1.ok.bm _ b))
  have nMb : ¬ Mb Dl := fun b => nM (g1.ok.mm _ b)
  have bs1 := bs.go g1
  have hi0 : i < ρ.length := (List.getElem?_eq_some_iff.mp h0).1
  have h0w : ρw[i]? = some (.own ls) := by
    show (ρ.set j .no)[i]? = _
    rw [List.getElem?_set_ne (Ne.symm hij)]
    exact h0
  let M2 : Addr → Prop := fun a => M a ∨ a = Dl
  -- own slots are apart from the new list
  have apart : ∀ (lsR : List DG.D) (jj : Nat) (s : SV) (p : Addr), (ρw.set i (.own lsR))[jj]? = some s → s.isOwn = true → (L2.wipe σ vs)[jj]? = some (some (.ref p)) → p ≠ Dl := fun lsR jj s p e hs hp z => by
    have own1 : ∃ s', ρw[jj]? = some s' ∧ s'.isOwn = true := by
      by_cases q : i = jj
      · subst q
        exact ⟨_, h0w, rfl⟩
      · rw [List.getElem?_set_ne q] at e
        exact ⟨s, e, hs⟩
    obtain ⟨s', e', hs'⟩ := own1
    obtain ⟨p', e1, _, _, u, hu⟩ := rw1.own_at e' hs'
    rw [e1] at hp
    cases hp
    rw [z, nD] at hu
    cases hu
  let St : Nat → Hp → Prop := fun n H' => ∃ accD accV lsR, H' Dl = some (.lst accV) ∧ accD.all DG.D.flat = true ∧ IsL X.K M2 B H' accD accV ∧ Ok Mb M2 B H' ∧ Bs Mb Hb M2 B H' ∧ Kept M M2 H1 H' ∧ Rp X.K Mb M2 B (L2.wipe σ vs) H' (ρw.set i (.own lsR)) ∧ accD.length ≤ n ∧ popW (ds.drop n) lsR (fun r => P (accD ++ r)) EE
  have k0 : Kept M M2 H1 (upd H1 Dl (.lst [])) := kept_ext g1.ok (Ext.new nD) nD
  refine ⟨fun n m H' => m = ds.length - n ∧ n ≤ ds.length ∧ St n H', ⟨_, rfl, Nat.zero_le _, [], [], ls, upd_same, rfl, rfl, g1.ok.newM nD not_imm_lst, ?_, k0, ?_, Nat.le_refl _, pd⟩, fun n m H' ⟨em, hle, accD, accV, lsR, hD, hfl, il, o2, b2, k2, rp2, la, pc⟩ => ?_⟩
  · exact ⟨bs1.hb.trans (Ext.new nD), fun a m => m.elim (bs1.mb a) fun z => .inr (by rw [z]; exact bs1.no g1.ok nD)⟩
  · have e : ρw.set i (.own ls) = ρw := by
      apply List.ext_getElem?
      intro jj
      by_cases q : i = jj
      · subst q
        rw [List.getElem?_set_self (by show i < (ρ.set j .no).length; rw [List.length_set]; exact hi0), h0w]
      · rw [List.getElem?_set_ne q]
    rw [e]
    exact rw1.keepA k0 (fun _ m => .inl m) fun jj s p e2 hs hp => upd_ne (by
      refine apart ls jj s p ?_ hs hp
      rw [e]
      exact e2)
  by_cases hi' : n < ds.length
  · refine .inr ⟨wk.go Mb M2 H' n o2 k2 hi', fun H' => St (n + 1) H', fun H' hs' => ⟨ds.length - (n + 1), by omega, rfl, hi', hs'⟩, fun xx H3 yy => ?_⟩
    have hd : ds[n]? = some ds[n] := List.getElem?_eq_getElem hi'
    obtain ⟨g3, ix⟩ := wk.yl Mb M2 H' n _ xx H3 o2 k2 hd yy
    rw [List.drop_eq_getElem_cons hi'] at pc
    have rp3 := rp2.go o2 g3
    have b3 := b2.go g3
    have k3 := kept_go k2 o2 g3
    have hD3 : H3 Dl = some (.lst accV) := g3.ext.k _ _ hD nB
    have il3 := il.mono g3.ext o2
    have hiw : (ρw.set i (.own lsR))[i]? = some (.own lsR) := List.getElem?_set_self (by show i < (ρ.set j .no).length; rw [List.length_set]; exact hi0)
    have jlen : j < ρw.length := by show j < (ρ.set j .no).length; rw [List.length_set]; exact hj
    obtain ⟨o0, e0, q, vq, e1, mq, nq, lq, iq⟩ := rp3.sl i _ hiw
    have eq0 : (L2.wipe σ vs)[i]? = some (some (.ref q)) := by rw [e0, e1]
    have qD : q ≠ Dl := apart lsR i _ q hiw rfl eq0
    -- what is stored behind an element
    have fin : ∀ (od : DG.D) (ov : V) (H5 : Hp) (lsN : List DG.D), od.flat = true → Is X.K M2 B H5 od ov → H5 Dl = some (.lst accV) → IsL X.K M2 B H5 accD accV → Ok Mb M2 B H5 → Bs Mb Hb M2 B H5 → Kept M M2 H1 H5 → Rp X.K Mb M2 B (L2.wipe σ vs) H5 (ρw.set i (.own lsN)) → popW (ds.drop (n + 1)) lsN (fun r => P (accD ++ (od :: r))) EE → St (n + 1) (upd H5 Dl (.lst (accV ++ [ov]))) := fun od ov H5 lsN fl io h5 il5 o5 b5 k5 r5 p5 => by
      have kp : Kept M2 M2 H5 (upd H5 Dl (.lst (accV ++ [ov]))) := .put (.inr rfl) h5 not_imm_lst
      refine ⟨accD ++ [od], accV ++ [ov], lsN, upd_same, ?_, kp.isL (il5.append (.one io)), o5.put (.inr rfl) nMb not_imm_lst, b5.upd (.inr rfl) nMb, k5.trans kp, r5.keepA kp (fun _ m => m) fun jj s p e2 hs hp => upd_ne (apart lsN jj s p e2 hs hp), ?_, ?_⟩
      · rw [List.all_append, hfl]
        simp [fl]
      · rw [List.length_append, List.length_singleton]
        omega
      · have e : (fun r => P (accD ++ [od] ++ r)) = fun r => P (accD ++ (od :: r)) := by
          funext r
          rw [List.append_assoc]
          rfl
        rw [e]
        exact p5
    have szv : accV.length < sizeLine := by
      rw [il.len]
      exact line_lt (by omega)
    -- the element
    have elt : ∀ (b : Bool), ds[n] = .bl b → (if b = true then ∃ v vr, H3 q = some (.lst (v :: vr)) ∧ ∃ acc, (upd H3 q (.lst vr)) Dl = some (.lst acc) ∧ acc.length < sizeLine ∧ St (n + 1) (upd (upd H3 q (.lst vr)) Dl (.lst (acc ++ [v]))) else ∃ acc, H3 Dl = some (.lst acc) ∧ acc.length < sizeLine ∧ St (n + 1) (upd H3 Dl (.lst (acc ++ [.bl false])))) →
        gAll X scope tg xx (L2.wipe σ vs) H3 fun σ2 H2 => L2.wipe σ2 vs = L2.wipe σ vs ∧ tYes σ2 H2 fun b H3 => if b = true then eAll X scope (.BoolOp .And [.Name x p1, .Call (.Attribute (.Name y p2) "pop" p3) [.Constant (.int 0) kk p4] [] p5] p6) σ2 H3 fun y H4 => ∃ acc, H4 Dl = some (.lst acc) ∧ acc.length < sizeLine ∧ St (n + 1) (upd H4 Dl (.lst (acc ++ [y]))) else St (n + 1) H3 := fun b eb hh s0 H0 C cl fp => by
      rw [eb] at ix
      refine hg s0 H0 C cl fp _ Mb M2 B (L2.wipe σ vs) H3 (.bl b) xx (fun d => d = .bl b) (fun _ => False) _ g3.ok rp3 ix rfl fun t σ2 pt sb rt => ⟨wipe_same sb fun _ m => m, ?_⟩
      have pt' : t = .bl b := pt
      subst pt'
      have hj2 : σ2[j]? = some (some (.bl b)) := by
        obtain ⟨v, ev, iv⟩ := rt.get (i := j) (d := .bl b) (List.getElem?_set_self (by rw [List.length_set]; exact jlen))
        rw [ev, show v = .bl b from iv]
      have hi2 : σ2[i]? = some (some (.ref q)) := by
        rw [sb.at_ i (by simpa using hij)]
        exact eq0
      show eAll X scope _ σ2 H3 _
      intro s1 H1' C1 cl1 fp1
      cases b with
      | true =>
        obtain ⟨v, vr, h1, h2⟩ := hh
        exact pop_elt (Y := Bk X scope s1 H1' C1 cl1 fp1) hNj (hvj _ _ _ _ _) hdj hcj hNi (hvi _ _ _ _ _) hdi hci (hbase _ _ _ _ _) (hfew _ _ _ _ _) hline (hst _ _ _ _ _) (hplain _ _ _ _ _) hj2 hi2 ⟨h1, h2⟩
      | false => exact pop_elt (v := .non) (vs := []) (Y := Bk X scope s1 H1' C1 cl1 fp1) hNj (hvj _ _ _ _ _) hdj hcj hNi (hvi _ _ _ _ _) hdi hci (hbase _ _ _ _ _) (hfew _ _ _ _ _) hline (hst _ _ _ _ _) (hplain _ _ _ _ _) hj2 hi2 hh
    cases hdn : ds[n] with
    | bl b =>
      rw [hdn] at pc
      cases b with
      | false =>
        exact elt false hdn ⟨accV, hD3, szv, fin (.bl false) (.bl false) H3 lsR rfl rfl hD3 il3 g3.ok b3 k3 rp3 pc⟩
      | true =>
        cases lsR with
        | nil => exact False.elim pc
        | cons d lsN =>
          have pc' : d.flat = true ∧ popW (ds.drop (n + 1)) lsN (fun r => P (accD ++ (d :: r))) EE := pc
          obtain ⟨v, vr, ev, iv, ir⟩ := iq
          subst ev
          have kp : Kept M2 M2 H3 (upd H3 q (.lst vr)) := .put mq lq not_imm_lst
          have hDq : (upd H3 q (.lst vr)) Dl = some (.lst accV) := by rw [upd_ne (Ne.symm qD)]; exact hD3
          refine elt true hdn ⟨v, vr, lq, accV, hDq, szv, fin d v _ lsN pc'.1 (iv.flat pc'.1) hDq (kp.isL il3) (g3.ok.put mq nq not_imm_lst) (b3.upd mq nq) (k3.trans kp) ?_ pc'.2⟩
          have r5 := rp3.upd (sv := .own lsN) (u := .lst vr) hiw rfl eq0 mq lq not_imm_lst ⟨q, vr, rfl, mq, nq, upd_same, kp.isL ir⟩
          rw [List.set_set] at r5
          exact r5
    | _ => rw [hdn] at pc; cases lsR <;> exact False.elim pc
  · have ei : n = ds.length := by omega
    refine .inl ⟨wk.st Mb M2 H' n o2 k2 (by omega), ?_⟩
    rw [List.drop_of_length_le (by omega)] at pc
    have pc' : P (accD ++ []) := by
      cases lsR <;> exact pc
    rw [List.append_nil] at pc'
    exact er accD Dl accV H' pc' b2.hb o2.down (bs1.no g1.ok nD) hD (il.flat hfl)
end
end DG

/-! ## DG31 -/
set_option Elab.async false
set_option linter.all false
set_option maxRecDepth 100000
set_option maxHeartbeats 4000000
namespace DG
open PySem PySem.Spec PyProof.Rows L2

/-! ### k in d, k not in d; d an own dict -/
section
variable {X : Cx} {E : XK} {ρ : List SV} {pos : Pos} {x : Str} {e : Expr} {m : W D} {t : Tb} {p1 : Pos}
theorem khas_inv {t : Tb} {d : D} {P : Bool → Prop} {EE : Exn → Prop} (h : khas t d P EE) : ∃ k, d.key? = some k ∧ P (getK t k).isSome := by
  unfold khas at h
  cases hk : d.key? with
  | none => rw [hk] at h; exact h.elim
  | some k => rw [hk] at h; exact ⟨k, rfl, h⟩
theorem KIs.isSome {K : PySem.W.Frag} {M B : Addr → Prop} {H : Hp} {t : Tb} {vs : List (Key × V)} (h : KIs K M B H t vs) (k : Key) : (valV vs k).isSome = (getK t k).isSome := by
  have := h.look k
  cases hg : getK t k with
  | none => simp only [hg] at this; rw [this]; rfl
  | some z =>
    simp only [hg] at this
    obtain ⟨y, e2, _⟩ := this
    rw [e2]
    rfl
theorem et_kin (i : Nat) (hu : X.A.units + 1 < cLine) (he : EX X E e ρ m) (h0 : ρ[i]? = some (.dct t) := by rfl) (hN : X.N[i]? = some x := by rfl) (hv : Vis X.env.scope x := by first | exact Or.inl rfl | exact Or.inr (Or.inl rfl) | exact Or.inr (Or.inr rfl))
    (hd : (x == ("__debug__" : Str)) = false := by decide) (hcd : (x == ("__classdict__" : Str)) = false := by decide) : ET X E (.Compare e [.In] [.Name x p1] pos) ρ (do let k ← m; khas t k) := by
  intro Mb M B σ H P EE Q o r p q ee
  refine of_pt (pt_cmp (pc_din hu pe_w (pe_var hN hv hd hcd))) ?_
  obtain ⟨c, vs, e0, mp, np, l, il⟩ := r.dct h0
  refine he Mb M B σ H _ EE _ o r p (fun d v H1 pd g iv => ?_) ee
  obtain ⟨k, hk, pk⟩ := khas_inv pd
  have l1 : H1 c = some (.dK vs) := g.ext.k c _ l fun b => np (o.bm c b)
  refine ⟨.ref c, e0, c, valV vs k, rfl, ?_, _, rfl, ?_⟩
  · rw [key_is hk iv]
    exact .k l1
  · rw [(il.mono g.ext o).isSome k]
    exact q _ H1 pk g
theorem et_knotin (i : Nat) (hu : X.A.units + 1 < cLine) (he : EX X E e ρ m) (h0 : ρ[i]? = some (.dct t) := by rfl) (hN : X.N[i]? = some x := by rfl) (hv : Vis X.env.scope x := by first | exact Or.inl rfl | exact Or.inr (Or.inl rfl) | exact Or.inr (Or.inr rfl))
    (hd : (x == ("__debug__" : Str)) = false := by decide) (hcd : (x == ("__classdict__" : Str)) = false := by decide) : ET X E (.Compare e [.NotIn] [.Name x p1] pos) ρ (do let k ← m; let b ← khas t k; pure (!b)) := by
  intro Mb M B σ H P EE Q o r p q ee
  refine of_pt (pt_cmp (pc_dnotin hu pe_w (pe_var hN hv hd hcd))) ?_
  obtain ⟨c, vs, e0, mp, np, l, il⟩ := r.dct h0
  refine he Mb M B σ H _ EE _ o r p (fun d v H1 pd g iv => ?_) ee
  obtain ⟨k, hk, pk⟩ := khas_inv (P := fun b => P (!b)) pd
  have l1 : H1 c = some (.dK vs) := g.ext.k c _ l fun b => np (o.bm c b)
  refine ⟨.ref c, e0, c, valV vs k, rfl, ?_, _, rfl, ?_⟩
  · rw [key_is hk iv]
    exact .k l1
  · rw [(il.mono g.ext o).isSome k]
    exact q _ H1 pk g
end

/-! ### x.insert(i, e), x an own list -/
def linsD (ds : List D) : D → D → W (List D)
  | .int i, d => need (ds.length < line ∧ 0 ≤ i ∧ i ≤ 1000000) (pure (ds.take i.toNat ++ [d] ++ ds.drop i.toNat))
  | _, _ => stuck
section
variable {X : Cx} {E : XK} {ρ : List SV} {pos : Pos}
theorem s1_ins (i : Nat) {x : Str} {e1 e2 : Expr} {m1 m2 : W D} {ds : List D} {mk : List D → List SV} {p1 p2 cpos : Pos} (h0 : ρ[i]? = some (.own ds)) (he1 : EX X E e1 ρ m1) (he2 : EX X E e2 ρ m2) (h : ∀ d, ρ.set i (.own d) = mk d := by intros; rfl) (hN : X.N[i]? = some x := by rfl)
    (hv : Vis X.env.scope x := by first | exact Or.inl rfl | exact Or.inr (Or.inl rfl) | exact Or.inr (Or.inr rfl)) (hd : (x == ("__debug__" : Str)) = false := by decide) (hcd : (x == ("__classdict__" : Str)) = false := by decide)
    (hs : swapsWith (.Call (.Attribute (.Name x p1) "insert" p2) [e1, e2] [] cpos) none pos.line X.env = pure false := by rfl)
    (hbase : attributeBase (.Name x p1) "insert" X.env (eval (.Name x p1) X.env) = eval (.Name x p1) X.env := by rfl)
    (hfew : ((backTo cpos (starEach [e1, e2] X.env)).all (fun x => !x.1) && (backToKw cpos (keywordEach [] X.env)).all (fun x => x.1.isSome)
      && decide ([e1, e2].length + ([] : List Keyword).length + (if ([] : List Keyword).isEmpty then 0 else 1) < 30)) = true := by rfl)
    (hline : (p2.endLine == cpos.line) = true := by rfl) (hst : starEach [e1, e2] X.env = (false, eval e1 X.env) :: starEach [e2] X.env := by rfl) (hst2 : starEach [e2] X.env = (false, eval e2 X.env) :: starEach [] X.env := by rfl) (hplain : (backTo cpos (starEach [e2] X.env)).any (·.1) = false := by rfl) :
    S1 X E (.Expr (.Call (.Attribute (.Name x p1) "insert" p2) [e1, e2] [] cpos) pos) ρ mk (do let j ← m1; let d ← m2; linsD ds j d) := by
  intro Mb B Hb M σ H P EE D bs o r p en ee
  refine of_ps (ps_expr (pe_bm PySem.F.plainAttrs_list PySem.F.slot_list_insert PySem.F.type_list_insert mt_insert (pe_var hN hv hd hcd) (pa_cons pe_w (pa_cons pe_w pa_nil hst2) hst) hbase hfew hline hst hplain) hs) ?_
  obtain ⟨x0, e0, q, vs, ev, mp, np, l, il⟩ := r.sl i _ h0
  refine ⟨.ref q, by rw [e0, ev], .inl ⟨rfl, vs, .of l⟩, ?_⟩
  refine he1 Mb M B σ H (fun j => (do let d ← m2; linsD ds j d : W (List DG.D)) P EE) EE _ o r p (fun j vj H1 pj g1 ij => ?_) (ee.post bs)
  refine he2 Mb M B σ H1 (fun d => (linsD ds j d : W (List DG.D)) P EE) EE _ g1.ok (r.go o g1) pj (fun d v H2 pd g2 iv => ?_) ((ee.post bs).go g1)
  have g := g1.trans g2
  cases j with
  | int z =>
    have pd' : (ds.length < line ∧ 0 ≤ z ∧ z ≤ 1000000) ∧ P (ds.take z.toNat ++ [d] ++ ds.drop z.toNat) := pd
    obtain ⟨⟨d1, d2, d3⟩, pd'⟩ := pd'
    have nB : ¬ B q := fun b => np (o.bm q b)
    have l2 : H2 q = some (.lst vs) := g.ext.k q _ l nB
    have il2 := il.mono g.ext o
    refine ⟨q, vs, z, v, rfl, by rw [show vj = .int z from ij], l2, by rw [il.len]; exact line_lt d1, d2, Int.lt_of_le_of_lt d3 (by decide), ?_⟩
    have kp : Kept M M H2 (upd H2 q (.lst (vs.take z.toNat ++ [v] ++ vs.drop z.toNat))) := .put mp l2 not_imm_lst
    have r3 := (r.go o g).upd (i := i) (sv := .own (ds.take z.toNat ++ [d] ++ ds.drop z.toNat)) (u := .lst (vs.take z.toNat ++ [v] ++ vs.drop z.toNat)) h0 rfl (by rw [e0, ev]) mp l2 not_imm_lst ⟨q, _, rfl, mp, np, upd_same, kp.isL (((il2.take _).append (.one iv)).append (il2.drop _))⟩
    rw [h] at r3
    exact en _ M σ _ pd' ((bs.go g).upd mp np) (g.ok.put mp np not_imm_lst) r3
  | _ => exact False.elim pd
end

/-! ### dict(e), e a list of pairs: an own dict -/
def pairK : D → Option (Key × D)
  | .tup [k, d] => k.key?.map fun k => (k, d)
  | _ => none
def pairsK : List D → Option Tb
  | [] => some []
  | d :: ds => match pairK d, pairsK ds with
    | some p, some ps => some (p :: ps)
    | _, _ => none
def mergeT (t more : Tb) : Tb := more.foldl (fun acc kv => setK acc kv.1 kv.2) t
def dictD : D → W Tb
  | .lst ds => optW (pairsK ds) fun ps => need (ds.length ≤ line) (pure (mergeT [] ps))
  | _ => stuck
theorem boot_dict' : bootBuiltins "dict" = some (.type "dict") := by decide +kernel
section
variable {K : PySem.W.Frag} {M B : Addr → Prop} {H : Hp}
theorem pairs_is : ∀ {ds : List D} {vs : List V} {ps : Tb}, IsL K M B H ds vs → pairsK ds = some ps → ∃ (as : List Addr) (kvs : List (Key × V)), vs = as.map V.ref ∧ Paired (fun p kv => SqT K H p [kV kv.1, kv.2]) as kvs ∧ KIs K M B H ps kvs
  | [], vs, ps, h, e => by
    have h' : vs = [] := h
    have e' : some ([] : Tb) = some ps := e
    cases e'
    exact ⟨[], [], h', .nil, .nil⟩
  | d :: ds, vs, ps, h, e => by
    obtain ⟨v, r, ev, i1, i2⟩ := h
    unfold pairsK at e
    cases h1 : pairK d with
    | none => rw [h1] at e; cases e
    | some p =>
      cases h2 : pairsK ds with
      | none => rw [h1, h2] at e; cases e
      | some qs =>
        rw [h1, h2] at e
        cases e
        obtain ⟨as, kvs, e1, e2, e3⟩ := pairs_is i2 h2
        unfold pairK at h1
        split at h1
        · rename_i k dd
          cases hk : k.key? with
          | none => rw [hk] at h1; cases h1
          | some kk =>
            rw [hk] at h1
            cases h1
            obtain ⟨a, ws, ea, s, il⟩ := isT i1
            obtain ⟨vk, vd, ew, ik, id'⟩ := isTwo il
            refine ⟨a :: as, (kk, vd) :: kvs, by rw [ev, ea, e1]; rfl, .cons ?_ e2, .cons id' e3⟩
            rw [ew, key_is hk ik] at s
            exact s.sqT
        · cases h1
theorem KIs.merge : ∀ {more : Tb} {mvs : List (Key × V)}, KIs K M B H more mvs → ∀ {t : Tb} {vs : List (Key × V)}, KIs K M B H t vs → KIs K M B H (mergeT t more) (mergeK vs mvs)
  | _, _, .nil, _, _, h => h
  | _, _, .cons i r, _, _, h => KIs.merge r (h.put _ i)
end
theorem em_dictP {X : Cx} {E : XK} {ρ : List SV} {e : Expr} {m : W D} {p pos : Pos} (hc : X.calm = true) (hm : X.mg "dict" = none) (he : EX X E e ρ m) (hg : Gl X "dict" := by rfl)
    (hs : starEach [e] X.env = (false, eval e X.env) :: starEach [] X.env := by rfl) (hpl : (backTo pos (starEach [] X.env)).any (·.1) = false := by rfl) : EM X E (.Call (.Name "dict" p) [e] [] pos) ρ SV.dct (do let x ← m; dictD x) := by
  intro Mb M B σ H P EE Q o r pm q ee
  refine of_pe (pe_callTy (call_dictP hc) hg hm boot_dict' (pa_cons pe_w pa_nil hs) (by decide) (by decide) hs hpl) ?_
  refine he Mb M B σ H (fun x => (dictD x : W Tb) P EE) EE _ o r pm (fun d v H1 pd g1 iv => ?_) ee
  cases d with
  | lst ds =>
    have pd' : (optW (pairsK ds) fun ps => need (ds.length ≤ line) (pure (mergeT [] ps)) : W Tb) P EE := pd
    cases hp : pairsK ds with
    | none => rw [hp] at pd'; exact pd'.elim
    | some ps =>
      rw [hp] at pd'
      obtain ⟨hl, pd'⟩ : ds.length ≤ line ∧ P (mergeT [] ps) := pd'
      obtain ⟨a, vs, e1, nm, l, il⟩ := isLs iv
      obtain ⟨as, kvs, ea, pr, ki⟩ := pairs_is il hp
      refine ⟨a, as, kvs, by rw [e1], ?_, pr, fun c n => ?_⟩
      · rw [← ea]
        exact .of l
      · have bs : Bs Mb (fun _ => none) M B H1 := ⟨⟨fun _ _ e => (by cases e), fun _ _ _ _ e => (by cases e)⟩, fun _ _ => .inr rfl⟩
        have kk : KIs X.K M B H1 (mergeT [] ps) (mergeK [] kvs) := ki.merge .nil
        have kp := kept_new (u := .dK (mergeK [] kvs)) g1.ok n
        have hs : SlotIs X.K Mb (fun x => M x ∨ x = c) B (upd H1 c (.dK (mergeK [] kvs))) (.dct (mergeT [] ps)) (some (.ref c)) := ⟨c, _, rfl, .inr rfl, fun z => g1.ok.nm n (g1.ok.mm c z), upd_same, kk.keep kp⟩
        obtain ⟨b2, o2, r2⟩ := own_new (sv := .dct (mergeT [] ps)) g1.ok bs (r.go o g1) (Go.new g1.ok n) n upd_same not_imm_dK 0 hs
        have n0 : H c = none := g1.free o n
        refine q _ (.ref c) _ _ pd' ⟨g1.ext.trans (Ext.new n), o2, fun _ m => .inl m, fun x m => m.elim .inl fun z => .inr (by rw [z]; exact n0)⟩ hs fun _ => ⟨c, rfl, n0⟩
  | _ => exact False.elim pd

/-! ### a flat value handed back while own things stand -/
theorem sr_retK {X : Cx} {E : XK} {ρ : List SV} {pos : Pos} {b : Bool} {e : Expr} {rest : List Stmt} {m : W D} (he : EX X E e ρ m) : SR X E b (.Return (some e) pos :: rest) ρ (do let d ← m; flatW d) := by
  intro Mb B Hb M σ H P EE D bs o r p er hn ee
  refine of_pss (pss_cons (ps_ret pe_w) pss_never) ?_
  refine he Mb M B σ H (fun d => flatW d P EE) EE _ o r p (fun d v H1 pd g1 iv => ?_) (ee.post bs)
  have pd' : (if d.flat then pure d else stuck : W DG.D) P EE := pd
  by_cases f : d.flat = true
  · rw [if_pos f] at pd'
    exact er d v H1 pd' (bs.go g1).hb g1.ok.down (iv.less o.mm)
  · rw [if_neg f] at pd'
    exact False.elim pd'
/-! ### a comprehension over own things, stored at once -/
theorem lc_bor {X : Cx} {E : XK} {ρ ρ' : List SV} {elt tg iter : Expr} {ifs : List Expr} {scope : Scope} {m : W (List D)} (h : LCR X E elt tg iter ifs scope ρ' m) (hr : ρ.map fzS = ρ' := by rfl) : LCR X E elt tg iter ifs scope ρ (do let d ← m; flatsW d) := by
  obtain ⟨own, g, tt, te, ok, hg, ht, he, core⟩ := h.ex
  refine ⟨own, g, tt, te, ok, hg, ht, he, fun Mb M B σ H P EE Q o r p q ee => ?_⟩
  have r2 := r.fz o
  rw [hr] at r2
  refine core Mb Mb B σ H (fun d => flatsW d P EE) EE Q o.down r2 p (fun d a vs H1 pd g n l iv => ?_) fun x H1 ex g => ee x H1 ex (Go.up o g)
  have pd' : (if d.all D.flat then pure d else stuck : W (List D)) P EE := pd
  by_cases f : d.all D.flat = true
  · rw [if_pos f] at pd'
    exact q d a vs H1 pd' (Go.up o g) n l (IsL.flat f iv)
  · rw [if_neg f] at pd'
    exact False.elim pd'
/-! ### xs.index(x), texts -/
theorem eqV_str (a b : Str) : eqV (.str a) (.str b) = decide (a = b) := by
  show (a == b) = decide (a = b)
  by_cases h : a = b
  · rw [decide_eq_true h]
    exact beq_iff_eq.mpr h
  · rw [decide_eq_false h]
    exact beq_eq_false_iff_ne.mpr h
theorem ex_indexL {X : Cx} {E : XK} {ρ : List SV} {o e : Expr} {mo me : W D} {apos cpos : Pos} (ho : EX X E o ρ mo) (he : EX X E e ρ me)
    (hbase : attributeBase o "index" X.env (eval o X.env) = eval o X.env := by rfl)
    (hfew : ((backTo cpos (starEach [e] X.env)).all (fun x => !x.1) && (backToKw cpos (keywordEach [] X.env)).all (fun x => x.1.isSome)
      && decide ([e].length + ([] : List Keyword).length + (if ([] : List Keyword).isEmpty then 0 else 1) < 30)) = true := by rfl)
    (hline : (apos.endLine == cpos.line) = true := by rfl) (hs : starEach [e] X.env = (false, eval e X.env) :: starEach [] X.env := by rfl) (hplain : (backTo cpos (starEach [] X.env)).any (·.1) = false := by rfl) :
    EX X E (.Call (.Attribute o "index" apos) [e] [] cpos) ρ (do let x ← mo; let ds ← lstD x; let y ← me; idxOfD ds y) := by
  intro Mb M B σ H P EE Q ok rp pm q ee
  refine of_pe (pe_bm PySem.F.plainAttrs_list PySem.F.slot_list_index PySem.F.type_list_index mt_index pe_w (pa_cons pe_w pa_nil hs) hbase hfew hline hs hplain) ?_
  refine ho Mb M B σ H (fun x => ((do let ds ← lstD x; let y ← me; idxOfD ds y) : W D) P EE) EE _ ok rp pm (fun x vx H1 px g1 ix => ?_) ee
  cases x with
  | lst ds =>
    obtain ⟨a, vs, e1, nm, l, il⟩ := isLs ix
    subst e1
    refine ⟨.inl ⟨rfl, vs, .of l⟩, ?_⟩
    refine he Mb M B σ H1 (fun y => idxOfD ds y P EE) EE _ g1.ok (rp.go ok g1) px (fun y vy H2 py g2 iy => ?_) (ee.go g1)
    cases y with
    | str z =>
      have py' : (optW (strsOf ds) fun ys => if z ∈ ys then pure (.int (ys.idxOf z : Nat)) else stuck : W D) P EE := py
      cases hb : strsOf ds with
      | none => rw [hb] at py'; exact False.elim py'
      | some ys =>
        rw [hb] at py'
        have e2 := allOf_eq str?_eq hb
        subst e2
        have py2 : (if z ∈ ys then pure (.int (ys.idxOf z : Nat)) else stuck : W D) P EE := py'
        by_cases hz : z ∈ ys
        · rw [if_pos hz] at py2
          have il2 := IsL.keep (g2.kept g1.ok) (fun _ b => b) _ _ il
          have l2 := ((g2.kept g1.ok).ls a vs nm l).2
          have e3 := il2.strs
          subst e3
          obtain ⟨f1, f2⟩ := idxOf_first hz
          refine ⟨a, ys.map V.str, .str z, ys.idxOf z, .str z, rfl, by rw [show vy = .str z from iy], .of l2, rfl, ?_, by rw [List.getElem?_map, f1]; rfl, by rw [eqV_str]; simp, fun m z' hm e => ?_, q.here2 py2 (g1.trans g2)⟩
          · rw [List.all_map]
            exact List.all_eq_true.mpr fun _ _ => rfl
          · rw [List.getElem?_map] at e
            cases q2 : ys[m]? with
            | none => rw [q2] at e; cases e
            | some w =>
              rw [q2] at e
              cases e
              rw [eqV_str]
              exact decide_eq_false fun z2 => f2 m hm (by rw [q2, z2])
        · rw [if_neg hz] at py2
          exact False.elim py2
    | _ => exact False.elim py
  | _ => exact False.elim px
end DG

/-! ## DG33 -/
set_option Elab.async false
set_option linter.all false
set_option maxRecDepth 100000
set_option maxHeartbeats 4000000
namespace DG
open PySem PySem.Spec PyProof.Rows L2
/-! ### a dict display with texts as keys, looked up at once -/
def dispT (ks : List Str) (ds : List D) : Tb := mergeT [] ((ks.map Sum.inr : List Key).zip ds)
def zipV (ks : List Str) (vs : List V) : List (Key × V) := (ks.map Sum.inr : List Key).zip vs
def PairsP (X : Cx) (E : XK) (n : Nat) (ks : List Str) (trs : List (TE × TE)) (ρ : List SV) (m : W (List D)) : Prop := ∀ Mb M B σ H P EE (Q : List (V × V) → Hp → Prop), Ok Mb M B H → Rp X.K Mb M B σ H ρ → m P EE →
  (∀ ds vs H', P ds → Go Mb M B H H' → IsL X.K M B H' ds vs → vs.length = n → Q ((zipV ks vs).map fun kv => (kV kv.1, kv.2)) H') → PostE X E Mb M B H EE → tPairs trs σ H Q
structure EDP (X : Cx) (E : XK) (pos : Pos) (keys : List (Option Expr)) (values : List Expr) (ρ : List SV) (ks : List Str) (m : W (List D)) : Prop where
  ex : ∃ trs, PPs X pos keys values trs ∧ PairsP X E values.length ks trs ρ m
  len : ks.length = values.length
  kl : keys.length = values.length
  all : keys.all (·.isSome) = true
section
variable {X : Cx} {E : XK} {ρ : List SV} {pos : Pos}
theorem edp_nil : EDP X E pos [] [] ρ [] (pure []) := ⟨⟨[], pps_nil, fun Mb M B σ H P EE Q o r p q ee => q [] [] H p (.refl o) rfl rfl⟩, rfl, rfl, rfl⟩
theorem edp_cons {x : Str} {j : Nat} {kp : Pos} {v : Expr} {keys : List (Option Expr)} {values : List Expr} {ks : List Str} {m : W D} {ms : W (List D)} (hv : EX X E v ρ m) (hr : EDP X E pos keys values ρ ks ms) :
    EDP X E pos (some (.Constant (.str x) j kp) :: keys) (v :: values) ρ (x :: ks) (do let d ← m; let ds ← ms; pure (d :: ds)) := by
  obtain ⟨⟨trs, h1, h2⟩, hl, kl, ha⟩ := hr
  refine ⟨⟨_, pps_cons pe_str (pe_w (e := v)) h1, fun Mb M B σ H P EE Q o r p q ee => ?_⟩, by rw [List.length_cons, hl]; rfl, by rw [List.length_cons, kl]; rfl, by rw [List.all_cons, ha]; rfl⟩
  show wE X v σ H _
  refine hv Mb M B σ H (fun d => (do let ds ← ms; pure (d :: ds) : W (List D)) P EE) EE _ o r p (fun d u H1 pd g iv => ?_) ee
  refine h2 Mb M B σ H1 (fun ds => P (d :: ds)) EE _ g.ok (r.go o g) pd (fun ds vs H2 p2 g2 il n => ?_) (ee.go g)
  exact q (d :: ds) (u :: vs) H2 p2 (g.trans g2) ⟨u, vs, rfl, iv.mono g2.ext g.ok, il⟩ (by rw [List.length_cons, n]; rfl)
theorem kis_zip {K : PySem.W.Frag} {M B : Addr → Prop} {H : Hp} : ∀ {ks : List Str} {ds : List D} {vs : List V}, IsL K M B H ds vs → KIs K M B H ((ks.map Sum.inr : List Key).zip ds) (zipV ks vs)
  | [], _, _, _ => .nil
  | _ :: _, [], vs, h => by
    have h' : vs = [] := h
    subst h'
    exact .nil
  | k :: ks, d :: ds, _, ⟨v, r, e, h1, h2⟩ => by
    subst e
    exact .cons h1 (kis_zip h2)
theorem kept_dK {M B Mb : Addr → Prop} {H : Hp} {p : Addr} {xs ys : List (Key × V)} (o : Ok Mb M B H) (h : H p = some (.dK xs)) : Kept M M H (upd H p (.dK ys)) :=
  ⟨fun a zs n e => ⟨n, by rw [upd_ne (fun z => by rw [z, h] at e; cases e)]; exact e⟩, fun a u i e => by
    rw [upd_ne (fun z => by
      rw [z, h] at e
      cases e
      exact not_imm_dK i)]
    exact e⟩
theorem disp_run {keys : List (Option Expr)} {values : List Expr} {ks : List Str} {m : W (List D)} (h : EDP X E pos keys values ρ ks m) (h15 : values.length ≤ 15) : ∃ trs, PPs X pos keys values trs ∧
    ∀ Mb M B σ H P EE (Q : VK), Ok Mb M B H → Rp X.K Mb M B σ H ρ → m P EE → (∀ ds c kvs H', P ds → Go Mb M B H H' → ¬ M c → H' c = some (.dK kvs) → KIs X.K M B H' (dispT ks ds) kvs → Q (.ref c) H') → PostE X E Mb M B H EE → tDisp trs σ H Q := by
  obtain ⟨⟨trs, h1, h2⟩, hl, _, _⟩ := h
  refine ⟨trs, h1, fun Mb M B σ H P EE Q o r p q ee c n => ?_⟩
  have g0 : Go Mb M B H (upd H c (.dK [])) := .new o n
  have nm : ¬ M c := o.nm n
  refine h2 Mb M B σ _ P EE _ g0.ok (r.go o g0) p (fun ds vs H2 pd g il hn => ?_) (ee.go g0)
  have l2 : H2 c = some (.dK []) := g.ext.k c _ upd_same (o.nb nm)
  refine ⟨l2, zipV ks vs, rfl, ?_, ?_⟩
  · unfold zipV
    rw [List.length_zip, List.length_map]
    omega
  have kp := kept_dK (ys := mergeK [] (zipV ks vs)) g.ok l2
  have at_ : ∀ a, a ≠ c → upd H2 c (.dK (mergeK [] (zipV ks vs))) a = H2 a := fun a z => upd_ne z
  have ne : ∀ a o', H a = some o' → a ≠ c := fun a o' e z => by
    rw [z, n] at e
    cases e
  have ok3 : Ok Mb M B (upd H2 c (.dK (mergeK [] (zipV ks vs)))) := ⟨o.bm, o.mm, fun a ma => by
      rw [at_ a fun z => nm (z ▸ ma)]
      exact g.ok.tr a ma, fun a b => by
      obtain ⟨q1, c1, ds1, e1, e2, e3, e4⟩ := g.ok.bg a b
      refine ⟨q1, c1, ds1, ?_, e2, ?_, e4⟩
      · rw [at_ a fun z => nm (o.mm _ (o.bm _ (z ▸ b)))]
        exact e1
      · rw [at_ q1 fun z => by rw [z, l2] at e3; cases e3]
        exact e3⟩
  have ex3 : Ext B H (upd H2 c (.dK (mergeK [] (zipV ks vs)))) := ⟨fun a o' e nb => by
      rw [at_ a (ne a o' e)]
      exact (g0.trans g).ext.k a o' e nb, fun a q1 c1 b e e0 => by
      obtain ⟨c', w1, w2⟩ := (g0.trans g).ext.b a q1 c1 b e e0
      exact ⟨c', w1, by rw [at_ a (ne a _ e)]; exact w2⟩⟩
  refine q ds c _ _ pd ⟨ex3, ok3⟩ nm upd_same ?_
  exact KIs.merge (kis_zip (IsL.keep kp (fun _ b => b) _ _ il)) .nil
theorem ex_dispGet {keys : List (Option Expr)} {values : List Expr} {ks : List Str} {m : W (List D)} {e f : Expr} {me mf : W D} {dpos apos cpos : Pos} (hu : X.A.units + 1 < cLine) (h : EDP X E dpos keys values ρ ks m) (he : EX X E e ρ me) (hf : EX X E f ρ mf) (h0 : keys ≠ [] := by intro z; cases z) (h15 : values.length ≤ 15 := by decide)
    (hm : M2 X (.Dict keys values dpos) "get" apos e f cpos := by exact ⟨rfl, rfl, rfl, rfl⟩) : EX X E (.Call (.Attribute (.Dict keys values dpos) "get" apos) [e, f] [] cpos) ρ (do let ds ← m; let k ← me; let z ← mf; kget2 (dispT ks ds) k z) := by
  intro Mb M B σ H P EE Q o r p q ee
  obtain ⟨trs, h1, h2⟩ := disp_run h h15
  refine of_pe (pe_dget2 hu (pe_disp h1 h.all h.kl h0 (by rw [h.kl]; exact h15)) pe_w pe_w hm) ?_
  refine h2 Mb M B σ H (fun ds => (do let k ← me; let z ← mf; kget2 (dispT ks ds) k z : W D) P EE) EE _ o r p (fun ds c kvs H0 pd g0 nm l il => ?_) ee
  have nb : ¬ B c := o.nb nm
  refine ⟨c, rfl, .inl ⟨kvs, .of l⟩, he Mb M B σ H0 (fun k => (do let z ← mf; kget2 (dispT ks ds) k z : W D) P EE) EE _ g0.ok (r.go o g0) pd (fun d v H1 pd1 g iv => ?_) (ee.go g0)⟩
  refine hf Mb M B σ H1 (fun z => kget2 (dispT ks ds) d z P EE) EE _ g.ok ((r.go o g0).go g0.ok g) pd1 (fun z w H2 pz g2 iz => ?_) ((ee.go g0).go g)
  have l2 : H2 c = some (.dK kvs) := g2.ext.k c _ (g.ext.k c _ l nb) nb
  have pz : kget2 (dispT ks ds) d z P EE := pz
  unfold kget2 at pz
  cases hk : d.key? with
  | none => rw [hk] at pz; exact pz.elim
  | some k =>
    rw [hk] at pz
    have gg := g.trans g2
    have := (il.mono gg.ext g0.ok).look k
    rw [key_is hk iv]
    refine ⟨valV kvs k, .k l2, ?_⟩
    cases hg : getK (dispT ks ds) k with
    | none =>
      simp only [hg] at pz this
      rw [this]
      exact q z w H2 pz (g0.trans gg) iz
    | some y =>
      simp only [hg] at pz this
      obtain ⟨y', e2, iy⟩ := this
      rw [e2]
      exact q y y' H2 pz (g0.trans gg) iy
theorem ex_dispIdx {keys : List (Option Expr)} {values : List Expr} {ks : List Str} {m : W (List D)} {e : Expr} {me : W D} {dpos : Pos} (hu : X.A.units + 1 < cLine) (h : EDP X E dpos keys values ρ ks m) (he : EX X E e ρ me) (h0 : keys ≠ [] := by intro z; cases z) (h15 : values.length ≤ 15 := by decide) (hs : NoSl e := by intro _ _; rfl) :
    EX X E (.Subscript (.Dict keys values dpos) e pos) ρ (do let ds ← m; let k ← me; kget (dispT ks ds) k) := by
  intro Mb M B σ H P EE Q o r p q ee
  obtain ⟨trs, h1, h2⟩ := disp_run h h15
  refine of_pe (pe_dget hu (pe_disp h1 h.all h.kl h0 (by rw [h.kl]; exact h15)) pe_w hs) ?_
  refine h2 Mb M B σ H (fun ds => (do let k ← me; kget (dispT ks ds) k : W D) P EE) EE _ o r p (fun ds c kvs H0 pd g0 nm l il => ?_) ee
  refine he Mb M B σ H0 (fun k => kget (dispT ks ds) k P EE) EE _ g0.ok (r.go o g0) pd (fun d v H1 pd1 g iv => ?_) (ee.go g0)
  have l1 : H1 c = some (.dK kvs) := g.ext.k c _ l (o.nb nm)
  have pd1 : kget (dispT ks ds) d P EE := pd1
  unfold kget at pd1
  cases hk : d.key? with
  | none => rw [hk] at pd1; exact pd1.elim
  | some k =>
    rw [hk] at pd1
    have := (il.mono g.ext g0.ok).look k
    cases hg : getK (dispT ks ds) k with
    | none => simp only [hg] at pd1; exact pd1.elim
    | some z =>
      simp only [hg] at pd1 this
      obtain ⟨y, e2, iy⟩ := this
      rw [key_is hk iv]
      exact ⟨c, y, rfl, by rw [← e2]; exact .k l1, q z y H1 pd1 (g0.trans g) iy⟩
end
end DG

/-! ## DG34 -/
set_option Elab.async false
set_option linter.all false
set_option maxRecDepth 100000
set_option maxHeartbeats 4000000
namespace DG
open PySem PySem.Spec PyProof.Rows L2
/-! ### things without a list inside: what a list made out of own lists may hold -/
mutual
def D.solid : D → Bool
  | .non => true
  | .bl _ => true
  | .int _ => true
  | .str _ => true
  | .tup ds => solidL ds
  | .pr ds => solidL ds
  | .lst _ => false
  | .fn _ => true
  | .bag => false
  | .scr _ => true
def solidL : List D → Bool
  | [] => true
  | d :: ds => d.solid && solidL ds
end
def solidsW (ds : List D) : W (List D) := if solidL ds then pure ds else stuck
section
variable {K : PySem.W.Frag} {M M' B : Addr → Prop} {H : Hp}
mutual
theorem Is.solid : ∀ (d : D) (v : V), d.solid = true → Is K M B H d v → Is K M' B H d v
  | .non, _, _, h => h
  | .bl _, _, _, h => h
  | .int _, _, _, h => h
  | .str _, _, _, h => h
  | .fn _, _, _, h => h
  | .scr _, _, _, h => h
  | .tup ds, _, f, ⟨a, vs, e, s, l⟩ => ⟨a, vs, e, s, IsL.solid ds vs f l⟩
  | .pr ds, _, f, ⟨a, vs, e, s, l⟩ => ⟨a, vs, e, s, IsL.solid ds vs f l⟩
  | .lst _, _, f, _ => by cases f
  | .bag, _, f, _ => by cases f
theorem IsL.solid : ∀ (ds : List D) (vs : List V), solidL ds = true → IsL K M B H ds vs → IsL K M' B H ds vs
  | [], _, _, h => h
  | d :: ds, _, f, ⟨v, r, e, h1, h2⟩ => by
    have f' : (d.solid && solidL ds) = true := f
    rw [Bool.and_eq_true] at f'
    exact ⟨v, r, e, Is.solid d v f'.1 h1, IsL.solid ds r f'.2 h2⟩
end
end
section
variable {X : Cx} {E : XK} {ρ ρ' : List SV} {e : Expr}
theorem ef_borS {m : W (List D)} (h : EF X E e ρ' m) (hr : ρ.map fzS = ρ' := by rfl) : EF X E e ρ (do let d ← m; solidsW d) := by
  intro Mb M B σ H P EE Q o r p q ee
  have r2 := r.fz o
  rw [hr] at r2
  refine h Mb Mb B σ H (fun d => solidsW d P EE) EE Q o.down r2 p (fun d a vs H1 pd g n l iv => ?_) fun x H1 ex g => ee x H1 ex (Go.up o g)
  have pd' : (if solidL d then pure d else stuck : W (List D)) P EE := pd
  by_cases f : solidL d = true
  · rw [if_pos f] at pd'
    exact q d a vs H1 pd' (Go.up o g) n l (IsL.solid d vs f iv)
  · rw [if_neg f] at pd'
    exact False.elim pd'
theorem lc_borS {elt tg iter : Expr} {ifs : List Expr} {scope : Scope} {m : W (List D)} (h : LCR X E elt tg iter ifs scope ρ' m) (hr : ρ.map fzS = ρ' := by rfl) : LCR X E elt tg iter ifs scope ρ (do let d ← m; solidsW d) := by
  obtain ⟨own, g, tt, te, ok, hg, ht, he, core⟩ := h.ex
  refine ⟨own, g, tt, te, ok, hg, ht, he, fun Mb M B σ H P EE Q o r p q ee => ?_⟩
  have r2 := r.fz o
  rw [hr] at r2
  refine core Mb Mb B σ H (fun d => solidsW d P EE) EE Q o.down r2 p (fun d a vs H1 pd g n l iv => ?_) fun x H1 ex g => ee x H1 ex (Go.up o g)
  have pd' : (if solidL d then pure d else stuck : W (List D)) P EE := pd
  by_cases f : solidL d = true
  · rw [if_pos f] at pd'
    exact q d a vs H1 pd' (Go.up o g) n l (IsL.solid d vs f iv)
  · rw [if_neg f] at pd'
    exact False.elim pd'
end
end DG

/-! ## DG35 -/
set_option Elab.async false
set_option linter.all false
set_option maxRecDepth 100000
set_option maxHeartbeats 4000000
namespace L2
open PySem PySem.Spec PyProof.Rows
/-- a tuple once: the same tuple -/
theorem tuple_mul1 (l : Addr) (items : Array Value) (n : Nat) (dd : Option Addr) (sl : Array (Option Value)) (u : Tok) :
    Meets (Builtin.«tuple.__mul__» ⟨[.ref l, .int 1 u], []⟩) (fun _ R s => s.heap.get? l = some { cls := .type "tuple", dict := dd, data := .seq items n, slots := sl } ∧
      R (.ok (.ret (Value.ref l))) s) :=
  .of_wp fun prog w A R s h => by
    obtain ⟨hp, g, d, tk, os⟩ := s
    obtain ⟨hl, h⟩ := h
    have f1 := AutoSeq1.idx_int
    have c1 : (items.isEmpty || (1 : Int) == 1) = true := by simp
    wp_walk using wpAny_loadPart' hl
    exact ⟨_, rfl, h⟩
def rRepT1 (K : PySem.W.Frag) : R2 := fun x y H Q => ∃ l xs, x = .ref l ∧ y = .int 1 ∧ SqT K H l xs ∧ Q (.ref l) H
theorem op_repT1 {X : Cx} : OpR X (binaryOp .Mult) (rRepT1 X.K) := by
  intro pins s σ H x y v u Q I rx ry h
  obtain ⟨l, xs, rfl, rfl, hT, q⟩ := h
  cases rx
  obtain ⟨t, rfl⟩ := ry
  obtain ⟨its, r, ⟨⟨cls, dd, data, sl⟩, ho, hc, n, hd⟩, hs⟩ := I.tuple hT
  simp only at hc hd
  subst hc hd
  refine wpAny_binaryOp_repeat_ref (T := "tuple") (U := "int") (by decide) ⟨_, ho, rfl⟩ (fun s' => typeIs_int s' 1 t) noFill_tuple_mul F.fills_int_mul F.slot_int_rmul repeat_tuple F.slot_int_index.lookup
    (call_meets F.slot_int_rmul (typeIs_int s 1 t) F.entry_int_rmul (F.args_int_rmul_2 _ _) (int_rmul_tuple 1 t l its.toArray n dd sl)
      ⟨ho, rfl, ⟨_, ho, rfl⟩, call_meets F.slot_tuple_mul ⟨_, ho, rfl⟩ F.entry_tuple_mul (F.args_tuple_mul_2 _ _) (tuple_mul1 l its.toArray n dd sl t) ⟨ho, ?_⟩⟩)
  exact ⟨.ref l, H, I, rfl, q⟩
end L2
namespace DG
open PySem PySem.Spec PyProof.Rows L2
/-- times, where a tuple may stand once -/
def mulTD : D → D → W D
  | .tup a, .int k => if k = 1 then pure (.tup a) else mulD (.tup a) (.int k)
  | x, y => mulD x y
theorem od_mulT {X : Cx} : OpD X (binaryOp .Mult) mulTD := by
  obtain ⟨t, h1, h2⟩ := od_mul (X := X)
  refine ⟨_, op_repT1.or h1, fun Mb M B H dx dy vx vy P EE Q o ix iy p q => ?_⟩
  by_cases h : (∃ a, dx = .tup a) ∧ dy = .int 1
  · obtain ⟨⟨a, rfl⟩, rfl⟩ := h
    obtain ⟨l, vs, e1, s1, i1⟩ := isT ix
    have p' : P (.tup a) := p
    exact .inl ⟨l, vs, e1, iy, s1.sqT, by rw [← e1]; exact q.here o p' ix⟩
  · have e : mulTD dx dy = mulD dx dy := by
      unfold mulTD
      split
      · rename_i a k
        rw [if_neg fun z => h ⟨⟨a, rfl⟩, by rw [z]⟩]
      · rfl
    rw [e] at p
    exact .inr (h2 Mb M B H dx dy vx vy P EE Q o ix iy p q)
/-! ### one thing out of own lists, without a list inside -/
def solidW (d : D) : W D := if d.solid then pure d else stuck
theorem ex_borS {X : Cx} {E : XK} {ρ ρ' : List SV} {e : Expr} {m : W D} (h : EX X E e ρ' m) (hr : ρ.map fzS = ρ' := by rfl) : EX X E e ρ (do let d ← m; solidW d) := by
  intro Mb M B σ H P EE Q o r p q ee
  have r2 := r.fz o
  rw [hr] at r2
  refine h Mb Mb B σ H (fun d => solidW d P EE) EE Q o.down r2 p (fun d v H1 pd g iv => ?_) fun x H1 ex g => ee x H1 ex (Go.up o g)
  have pd' : (if d.solid then pure d else stuck : W D) P EE := pd
  by_cases f : d.solid = true
  · rw [if_pos f] at pd'
    exact q d v H1 pd' (Go.up o g) (Is.solid d v f iv)
  · rw [if_neg f] at pd'
    exact False.elim pd'
/-! ### zip, where a tuple may be one that was multiplied -/
def seqT? : D → Option (Bool × List D)
  | .lst ds => some (false, ds)
  | .tup ds => some (true, ds)
  | .pr ds => some (true, ds)
  | _ => none
theorem seqT_src {K : PySem.W.Frag} {M B : Addr → Prop} {H : Hp} {d : D} {v : V} {b : Bool} {ds : List D} (e : seqT? d = some (b, ds)) (i : Is K M B H d v) : ∃ a vs, v = .ref a ∧ SrcB b K M H a vs ∧ IsL K M B H ds vs := by
  cases d with
  | lst es =>
    cases e
    obtain ⟨a, xs, e1, n1, l1, is1⟩ := isLs i
    exact ⟨a, xs, e1, ⟨n1, l1⟩, is1⟩
  | tup es =>
    cases e
    obtain ⟨a, xs, e1, l1, is1⟩ := isT i
    exact ⟨a, xs, e1, l1.sqT, is1⟩
  | pr es =>
    cases e
    obtain ⟨a, xs, e1, l1, is1⟩ := i
    exact ⟨a, xs, e1, l1, is1⟩
  | _ => cases e
def zipTD : List D → W (List D)
  | [.tup as, .tup bs] => pure (pairL as bs)
  | [.tup as, .pr bs] => pure (pairL as bs)
  | _ => stuck
theorem zipTD_inv {ds : List D} {P : List D → Prop} {EE : Exn → Prop} (p : zipTD ds P EE) : ∃ d e b1 b2 as bs, ds = [d, e] ∧ seqT? d = some (b1, as) ∧ seqT? e = some (b2, bs) ∧ P (pairL as bs) := by
  unfold zipTD at p
  split at p
  · exact ⟨_, _, _, _, _, _, rfl, rfl, rfl, p⟩
  · exact ⟨_, _, _, _, _, _, rfl, rfl, rfl, p⟩
  · exact False.elim p
theorem ix_zipT {X : Cx} {E : XK} {ρ : List SV} {pos : Pos} {e e2 : Expr} {p tpos : Pos} {elts : List Expr} {kk : Nat} {m : W (List D)} (ha : EA X E [e, e2] ρ m) (hm : X.mg "zip" = none) (hg : Gl X "zip" := by rfl)
    (hs : starEach [e, e2] X.env = (false, eval e X.env) :: starEach [e2] X.env := by rfl) (hpl : (backTo pos (starEach [e2] X.env)).any (·.1) = false := by rfl) :
    IX X E (.Tuple elts kk tpos) (.Call (.Name "zip" p) [e, e2] [] pos) ρ (do let ds ← m; zipTD ds) := by
  intro Mb M B σ H P EE R o rp pm q ee
  refine of_pi (pi_zipAny hg hm pa_w hs hpl) ?_
  refine ha Mb M B σ H (fun ds => zipTD ds P EE) EE _ o rp pm (fun ds vs H1 pd g1 il nl => ?_) ee
  obtain ⟨d, d', b1, b2, as, bs, rfl, s1, s2, pp⟩ := zipTD_inv pd
  obtain ⟨v, v', ev, i1, i2⟩ := isTwo il
  obtain ⟨a, xs, e1, l1, is1⟩ := seqT_src s1 i1
  obtain ⟨b, ys, e2, l2, is2⟩ := seqT_src s2 i2
  exact ⟨b1, b2, a, b, xs, ys, by rw [ev, e1, e2], l1.sq, l2.sq, q _ _ H1 pp g1 (walk_zipM l1 is1 l2 is2)⟩
/-! ### isinstance, of what may be a multiplied tuple -/
def isiTD (d : D) (T : String) : W D := match d with
  | .pr _ => (match kitB "tuple" T with | some b => pure (.bl b) | none => stuck)
  | d => isiD d T
def tyT? : D → Option String
  | .pr _ => some "tuple"
  | d => d.ty?
theorem isiTD_eq (d : D) (T : String) : isiTD d T = (match tyT? d with | some t => (match kitB t T with | some b => pure (.bl b) | none => stuck) | none => stuck) := by
  cases d <;> rfl
theorem tyxT_of {K : PySem.W.Frag} {M B : Addr → Prop} {H : Hp} {d : D} {v : V} {t : String} (h : tyT? d = some t) (i : Is K M B H d v) : TyX K H v (.type t) := by
  cases d with
  | pr ds =>
    cases h
    obtain ⟨a, vs, e, s, _⟩ := i
    rw [e]
    rcases s with (h | ⟨o, h⟩) | ⟨o, _, _, e1, e2, _⟩
    · exact .base (.tup h)
    · exact .fTuple h
    · exact .kTuple e1 e2
  | _ => exact tyx_of (t := t) (by simpa only [tyT?] using h) i
section
variable {X : Cx} {E : XK} {ρ : List SV} {pos : Pos}
theorem ex_isiT {e : Expr} {m : W D} {T : Str} {ty : String} {p p2 : Pos} (he : EX X E e ρ m) (hm : X.mg "isinstance" = none) (hT : X.mg T = none) (hv : bootBuiltins T = some (.type ty)) (hg : Gl X "isinstance" := by rfl) (hgT : Gl X T := by rfl)
    (hn : T ≠ "__name__" := by decide) (hdb : (T == ("__debug__" : Str)) = false := by decide) (st1 : starEach [e, .Name T p2] X.env = (false, eval e X.env) :: starEach [.Name T p2] X.env := by rfl) (st2 : starEach [.Name T p2] X.env = (false, eval (.Name T p2) X.env) :: starEach [] X.env := by rfl)
    (hpl : (backTo pos (starEach [.Name T p2] X.env)).any (·.1) = false := by rfl) : EX X E (.Call (.Name "isinstance" p) [e, .Name T p2] [] pos) ρ (do let d ← m; isiTD d ty) := by
  intro Mb M B σ H P EE Q o rp pm q ee
  refine of_pe (pe_callB call_isi hg hm (by decide +kernel) (pa_cons pe_w (pa_cons (pe_bltn hgT hT hv (v := .ty ty) rfl hn hdb) pa_nil st2) st1) (by decide) (by decide) st1 hpl) ?_
  refine he Mb M B σ H (fun d => isiTD d ty P EE) EE _ o rp pm (fun d v H1 pd g1 iv => ?_) ee
  have pd' : isiTD d ty P EE := pd
  rw [isiTD_eq] at pd'
  cases h1 : tyT? d with
  | none => rw [h1] at pd'; exact False.elim pd'
  | some t =>
    rw [h1] at pd'
    cases h2 : kitB t ty with
    | none => simp only [h2] at pd'; exact False.elim pd'
    | some b =>
      simp only [h2] at pd'
      exact ⟨v, .ty ty, .type t, .type ty, b, rfl, .ty ty, tyxT_of h1 iv, kit_ty h2, q (.bl b) _ H1 pd' g1 rfl⟩
end
def lenTD : List D → W D
  | [.pr ds] => pure (.int ds.length)
  | ds => lenD ds
theorem cd_lenT {X : Cx} : CallD X (.builtin "len") lenTD := by
  obtain ⟨r, h1, h2⟩ := cd_len (X := X)
  refine ⟨_, call_len_seq.or h1, fun Mb M B H ds vs P EE Q o il p q => ?_⟩
  by_cases h : ∃ es, ds = [.pr es]
  · obtain ⟨es, rfl⟩ := h
    obtain ⟨v, e, a, ws, e1, l, is⟩ := isOne il
    exact .inl ⟨a, ws, by rw [e, e1], .inr l, by rw [is.len]; exact q.here o p rfl⟩
  · have e : lenTD ds = lenD ds := by
      unfold lenTD
      split
      · rename_i es
        exact absurd ⟨es, rfl⟩ h
      · rfl
    rw [e] at p
    exact .inr (h2 Mb M B H ds vs P EE Q o il p q)
end DG

/-! ## DC3 -/

set_option Elab.async false
set_option linter.all false
set_option maxRecDepth 100000
set_option maxHeartbeats 4000000
namespace DG
open PySem PySem.Spec PyProof.Rows L2

def dn_latest_copy (v_log : D) (v_index : D) (v_allowed : D) : W D := do let o ← (do let ds ← (do let x11 ← (do let x9 ← (do let x1 ← (pure v_index); let x2 ← (pure (.int 1)); subD x1 x2); let x10 ← (do let x7 ← (do let x3 ← (pure (.int 1)); negD x3); let x8 ← (do let x5 ← (do let x4 ← (pure (.int 1)); negD x4); let x6 ← (pure []); pure (x5 :: x6)); pure (x7 :: x8)); pure (x9 :: x10)); rngDown x11); forX ds () fun d12 (s13 : Unit) => pure d12 >>= fun t14 => (do let t32 ← (do let x31 ← (do let x25 ← (do let x19 ← (do let x17 ← (pure v_log); let x18 ← (pure t14); idxD x17 x18); let x20 ← (pure (.int 1)); idxD x19 x20); let x26 ← (do let x23 ← (do let x21 ← (pure v_log); let x22 ← (pure v_index); idxD x21 x22); let x24 ← (pure (.int 1)); idxD x23 x24); let x27 ← eqD x25 x26; boolD x27); if x31 then (do let x30 ← (do let x28 ← (pure v_allowed); let x29 ← (pure t14); idxD x28 x29); boolD x30) else pure false); if t32 then (do let d ← (pure t14); pure (.rt d)) else (pure (.nx ())))); outW (fun _ => (pure .non)) o
def den_latest_copy : List D → W D
  | [v_log, v_index, v_allowed] => dn_latest_copy v_log v_index v_allowed
  | _ => stuck

def dn_others_after (v_log : D) (v_start : D) (v_stop : D) : W (List D) := ((do let x7 ← (pure []); let x8 ← (do let x5 ← (do let x3 ← (do let x1 ← (pure v_log); let x2 ← (pure v_start); idxD x1 x2); let x4 ← (pure (.int 1)); idxD x3 x4); let x6 ← (pure []); pure (x5 :: x6)); pure (x7, x8)) >>= fun s10 => ((do let ds ← (do let x17 ← (do let x15 ← (do let x11 ← (pure v_start); let x12 ← (pure (.int 1)); addD x11 x12); let x16 ← (do let x13 ← (pure v_stop); let x14 ← (pure []); pure (x13 :: x14)); pure (x15 :: x16)); rng2D x17); forW ds (s10.2, s10.1) fun d18 (s19 : List D × List D) => pure d18 >>= fun t20 => ((do let t30 ← (do let x27 ← (do let x25 ← (do let x23 ← (pure v_log); let x24 ← (pure t20); idxD x23 x24); let x26 ← (pure (.int 1)); idxD x25 x26); let x28 ← (pure (.lst s19.1)); let x29 ← notInD x27 x28; boolD x29); if t30 then ((do let x36 ← (do let x34 ← (do let x32 ← (pure v_log); let x33 ← (pure t20); idxD x32 x33); let x35 ← (pure (.int 1)); idxD x34 x35); need (List.length s19.1 < line) (pure (s19.1 ++ [x36]))) >>= fun s38 => ((do let x39 ← (pure t20); need (List.length s19.2 < line) (pure (s19.2 ++ [x39]))) >>= fun s41 => (pure (s38, s41)))) else (pure (s19.1, s19.2))) >>= fun s42 => (pure (s42.1, s42.2)))) >>= fun s43 => (pure s43.2)))
def den_others_after : List D → W (List D)
  | [v_log, v_start, v_stop] => dn_others_after v_log v_start v_stop
  | _ => stuck

def dn_accepted_after (v_flags : D) (v_start : D) (v_stop : D) : W (List D) := do let ds13 ← (do let x7 ← (do let x5 ← (do let x1 ← (pure v_start); let x2 ← (pure (.int 1)); addD x1 x2); let x6 ← (do let x3 ← (pure v_stop); let x4 ← (pure []); pure (x3 :: x4)); pure (x5 :: x6)); rng2D x7); need (ds13.length ≤ line) (compW ds13 fun d11 => do let t10 ← pure d11; let c17 ← (do let x16 ← (do let x14 ← (pure v_flags); let x15 ← (pure t10); idxD x14 x15); boolD x16); if c17 then (do let x12 ← (pure t10); pure (some x12)) else pure none)
def den_accepted_after : List D → W (List D)
  | [v_flags, v_start, v_stop] => dn_accepted_after v_flags v_start v_stop
  | _ => stuck

def dn_reason (v_rule : D) (v_log : D) (v_index : D) : W D := ((do let _ ← (do let x3 ← (do let x1 ← (pure v_rule); let x2 ← (pure []); pure (x1 :: x2)); den_need_rule x3); pure ()) >>= fun _ => ((do let _ ← (do let x7 ← (do let x5 ← (pure v_log); let x6 ← (pure []); pure (x5 :: x6)); den_need_log x7); pure ()) >>= fun _ => (do let t23 ← (do let x22 ← (do let x21 ← (do let x20 ← (do let x18 ← (pure v_index); let x19 ← (do let x16 ← (pure (.int 0)); let x17 ← (do let x14 ← (do let x12 ← (do let x11 ← (do let x9 ← (pure v_log); let x10 ← (pure []); pure (x9 :: x10)); lenD x11); let x13 ← (pure (.int 1)); subD x12 x13); let x15 ← (pure []); pure (x14 :: x15)); pure (x16 :: x17)); pure (x18 :: x19)); den_is_integer x20); boolD x21); pure (!x22)); if t23 then (throwW "InvalidIndex") else ((do let x27 ← (pure v_rule); (patTup 2 (patCons pure (patOne pure))) x27) >>= fun s29 => ((do let x35 ← (do let x34 ← (do let x32 ← (pure v_rule); let x33 ← (do let x30 ← (pure v_log); let x31 ← (pure []); pure (x30 :: x31)); pure (x32 :: x33)); (do let r ← den_run x34; pure (tup3 r))); let x36 ← (pure (.int 0)); idxD x35 x36) >>= fun s38 => ((do let x44 ← (pure s29.1); let x45 ← (do let x43 ← (do let x41 ← (pure (.str "recent")); let x42 ← (do let x39 ← (pure (.str "renew")); let x40 ← (pure []); pure (x39 :: x40)); pure (x41 :: x42)); pure (.tup x43)); inD x44 x45) >>= fun s47 => ((do let x64 ← (do let x62 ← (pure v_log); let x63 ← (do let x60 ← (pure v_index); let x61 ← (do let x58 ← (do let x57 ← (do let x48 ← (pure s47); boolD x48); if x57 then (do let x55 ← (do let x51 ← (do let x49 ← (pure (.bl true)); let x50 ← (pure []); pure (x49 :: x50)); pure (.lst x51)); let x56 ← (do let x54 ← (do let x52 ← (pure v_log); let x53 ← (pure []); pure (x52 :: x53)); lenD x54); mulD x55 x56) else (pure s38)); let x59 ← (pure []); pure (x58 :: x59)); pure (x60 :: x61)); pure (x62 :: x63)); den_latest_copy x64) >>= fun s66 => (do let t70 ← (do let x67 ← (pure s66); let x68 ← (pure .non); let x69 ← isD x67 x68; boolD x69); if t70 then (do let x73 ← (do let x71 ← (pure (.str "new")); let x72 ← (pure []); pure (x71 :: x72)); pure (.tup x73)) else (do let t78 ← (do let x77 ← (do let x76 ← (do let x74 ← (pure s38); let x75 ← (pure v_index); idxD x74 x75); boolD x76); pure (!x77)); if t78 then (do let x83 ← (do let x81 ← (pure (.str "remembered")); let x82 ← (do let x79 ← (pure s66); let x80 ← (pure []); pure (x79 :: x80)); pure (x81 :: x82)); pure (.tup x83)) else (do let t87 ← (do let x84 ← (pure s29.1); let x85 ← (pure (.str "last")); let x86 ← eqD x84 x85; boolD x86); if t87 then (do let x109 ← (do let x107 ← (pure (.str "forgotten")); let x108 ← (do let x105 ← (pure s66); let x106 ← (do let x103 ← (do let x102 ← (do let x100 ← (do let x97 ← (do let x94 ← (do let x92 ← (pure s38); let x93 ← (do let x90 ← (pure s66); let x91 ← (do let x88 ← (pure v_index); let x89 ← (pure []); pure (x88 :: x89)); pure (x90 :: x91)); pure (x92 :: x93)); (do let r ← den_accepted_after x94; pure (.lst r))); let x98 ← (pure none); let x99 ← (do let x95 ← (pure s29.2); let x96 ← intD x95; pure (some x96)); slcD x97 x98 x99); let x101 ← (pure []); pure (x100 :: x101)); tupleD x102); let x104 ← (pure []); pure (x103 :: x104)); pure (x105 :: x106)); pure (x107 :: x108)); pure (.tup x109)) else (do let t113 ← (do let x110 ← (pure s29.1); let x111 ← (pure (.str "recent")); let x112 ← eqD x110 x111; boolD x112); if t113 then (do let x135 ← (do let x133 ← (pure (.str "forgotten")); let x134 ← (do let x131 ← (pure s66); let x132 ← (do let x129 ← (do let x128 ← (do let x126 ← (do let x123 ← (do let x120 ← (do let x118 ← (pure v_log); let x119 ← (do let x116 ← (pure s66); let x117 ← (do let x114 ← (pure v_index); let x115 ← (pure []); pure (x114 :: x115)); pure (x116 :: x117)); pure (x118 :: x119)); (do let r ← den_others_after x120; pure (.lst r))); let x124 ← (pure none); let x125 ← (do let x121 ← (pure s29.2); let x122 ← intD x121; pure (some x122)); slcD x123 x124 x125); let x127 ← (pure []); pure (x126 :: x127)); tupleD x128); let x130 ← (pure []); pure (x129 :: x130)); pure (x131 :: x132)); pure (x133 :: x134)); pure (.tup x135)) else (do let x143 ← (do let x141 ← (pure (.str "forgotten")); let x142 ← (do let x139 ← (pure s66); let x140 ← (do let x137 ← (do let x136 ← (pure []); pure (.tup x136)); let x138 ← (pure []); pure (x137 :: x138)); pure (x139 :: x140)); pure (x141 :: x142)); pure (.tup x143)))))))))))))
def den_reason : List D → W D
  | [v_rule, v_log, v_index] => dn_reason v_rule v_log v_index
  | _ => stuck

def dn_all_thresholds (v_kind : D) (v_log : D) : W (List D) := ((do let x9 ← (pure []); let x10 ← (do let x7 ← (do let x3 ← (do let x1 ← (pure (.bl true)); let x2 ← (pure []); pure (x1 :: x2)); pure (.lst x3)); let x8 ← (do let x6 ← (do let x4 ← (pure v_log); let x5 ← (pure []); pure (x4 :: x5)); lenD x6); mulD x7 x8); pure (x9, x10)) >>= fun s12 => ((do let ds ← (do let x13 ← (pure v_log); enumD x13); forW ds s12.1 fun d14 (s15 : List D) => (patTup 2 (patCons pure (patOne pure))) d14 >>= fun t16 => ((do let x27 ← (do let x25 ← (pure v_log); let x26 ← (do let x23 ← (pure t16.1); let x24 ← (do let x21 ← (pure s12.2); let x22 ← (pure []); pure (x21 :: x22)); pure (x23 :: x24)); pure (x25 :: x26)); den_latest_copy x27) >>= fun s29 => ((do let t33 ← (do let x30 ← (pure s29); let x31 ← (pure .non); let x32 ← isD x30 x31; boolD x32); if t33 then ((do let x35 ← (pure .non); need (List.length s15 < line) (pure (s15 ++ [x35]))) >>= fun s37 => (pure s37)) else ((do let t41 ← (do let x38 ← (pure v_kind); let x39 ← (pure (.str "recent")); let x40 ← eqD x38 x39; boolD x40); if t41 then ((do let x55 ← (do let x53 ← (pure (.int 1)); let x54 ← (do let x52 ← (do let x50 ← (do let x49 ← (do let x47 ← (pure v_log); let x48 ← (do let x45 ← (pure s29); let x46 ← (do let x43 ← (pure t16.1); let x44 ← (pure []); pure (x43 :: x44)); pure (x45 :: x46)); pure (x47 :: x48)); (do let r ← den_others_after x49; pure (.lst r))); let x51 ← (pure []); pure (x50 :: x51)); lenD x52); addD x53 x54); need (List.length s15 < line) (pure (s15 ++ [x55]))) >>= fun s57 => (pure s57)) else ((do let x68 ← (do let x66 ← (do let x60 ← (pure (.int 1)); let x61 ← (do let x58 ← (pure t16.2); let x59 ← (pure (.int 0)); idxD x58 x59); addD x60 x61); let x67 ← (do let x64 ← (do let x62 ← (pure v_log); let x63 ← (pure s29); idxD x62 x63); let x65 ← (pure (.int 0)); idxD x64 x65); subD x66 x67); need (List.length s15 < line) (pure (s15 ++ [x68]))) >>= fun s70 => (pure s70))) >>= fun s71 => (pure s71))) >>= fun s72 => (pure s72)))) >>= fun s73 => (pure s73)))
def den_all_thresholds : List D → W (List D)
  | [v_kind, v_log] => dn_all_thresholds v_kind v_log
  | _ => stuck

def dn_thresholds (v_kind : D) (v_log : D) : W (List D) := ((do let _ ← (do let x10 ← (do let x8 ← (pure v_kind); let x9 ← (do let x6 ← (do let x5 ← (do let x3 ← (pure (.str "recent")); let x4 ← (do let x1 ← (pure (.str "renew")); let x2 ← (pure []); pure (x1 :: x2)); pure (x3 :: x4)); pure (.tup x5)); let x7 ← (pure []); pure (x6 :: x7)); pure (x8 :: x9)); den_need_kind x10); pure ()) >>= fun _ => ((do let _ ← (do let x14 ← (do let x12 ← (pure v_log); let x13 ← (pure []); pure (x12 :: x13)); den_need_log x14); pure ()) >>= fun _ => (do let x20 ← (do let x18 ← (pure v_kind); let x19 ← (do let x16 ← (pure v_log); let x17 ← (pure []); pure (x16 :: x17)); pure (x18 :: x19)); den_all_thresholds x20)))
def den_thresholds : List D → W (List D)
  | [v_kind, v_log] => dn_thresholds v_kind v_log
  | _ => stuck

def dn_need_sizes (v_kind : D) (v_low : D) (v_high : D) : W D := ((do let x3 ← (do let x1 ← (pure v_kind); let x2 ← (pure []); pure (x1 :: x2)); den_largest_size x3) >>= fun s5 => (do let t32 ← (do let x31 ← (do let x14 ← (do let x13 ← (do let x12 ← (do let x10 ← (pure v_low); let x11 ← (do let x8 ← (pure (.int 1)); let x9 ← (do let x6 ← (pure s5); let x7 ← (pure []); pure (x6 :: x7)); pure (x8 :: x9)); pure (x10 :: x11)); den_is_integer x12); boolD x13); pure (!x14)); if x31 then pure true else (do let x30 ← (do let x29 ← (do let x28 ← (do let x26 ← (pure v_high); let x27 ← (do let x24 ← (pure v_low); let x25 ← (do let x22 ← (do let x21 ← (do let x19 ← (pure s5); let x20 ← (do let x17 ← (do let x15 ← (pure v_low); let x16 ← (pure (.int 100)); addD x15 x16); let x18 ← (pure []); pure (x17 :: x18)); pure (x19 :: x20)); minD x21); let x23 ← (pure []); pure (x22 :: x23)); pure (x24 :: x25)); pure (x26 :: x27)); den_is_integer x28); boolD x29); pure (!x30))); if t32 then (throwW "InvalidSizes") else (pure .non)))
def den_need_sizes : List D → W D
  | [v_kind, v_low, v_high] => dn_need_sizes v_kind v_low v_high
  | _ => stuck

def dn_accepted_counts (v_kind : D) (v_log : D) (v_low : D) (v_high : D) : W (List D) := ((do let _ ← (do let x5 ← (do let x3 ← (pure v_kind); let x4 ← (do let x1 ← (pure c_KINDS); let x2 ← (pure []); pure (x1 :: x2)); pure (x3 :: x4)); den_need_kind x5); pure ()) >>= fun _ => ((do let _ ← (do let x9 ← (do let x7 ← (pure v_log); let x8 ← (pure []); pure (x7 :: x8)); den_need_log x9); pure ()) >>= fun _ => ((do let _ ← (do let x17 ← (do let x15 ← (pure v_kind); let x16 ← (do let x13 ← (pure v_low); let x14 ← (do let x11 ← (pure v_high); let x12 ← (pure []); pure (x11 :: x12)); pure (x13 :: x14)); pure (x15 :: x16)); den_need_sizes x17); pure ()) >>= fun _ => (do let ds46 ← (do let x25 ← (do let x23 ← (pure v_low); let x24 ← (do let x21 ← (do let x19 ← (pure v_high); let x20 ← (pure (.int 1)); addD x19 x20); let x22 ← (pure []); pure (x21 :: x22)); pure (x23 :: x24)); rng2D x25); need (ds46.length ≤ line) (compW ds46 fun d44 => do let t28 ← pure d44; let x45 ← (do let x41 ← (do let x39 ← (do let x38 ← (do let x36 ← (do let x33 ← (do let x31 ← (pure v_kind); let x32 ← (do let x29 ← (pure t28); let x30 ← (pure []); pure (x29 :: x30)); pure (x31 :: x32)); pure (.tup x33)); let x37 ← (do let x34 ← (pure v_log); let x35 ← (pure []); pure (x34 :: x35)); pure (x36 :: x37)); (do let r ← den_run x38; pure (tup3 r))); let x40 ← (pure (.int 0)); idxD x39 x40); let x43 ← lstD x41; let x42 ← (pure (.bl true)); countD x43 x42); pure (some x45))))))
def den_accepted_counts : List D → W (List D)
  | [v_kind, v_log, v_low, v_high] => dn_accepted_counts v_kind v_log v_low v_high
  | _ => stuck

def dn_first_anomaly (v_log : D) : W D := ((do let _ ← (do let x3 ← (do let x1 ← (pure v_log); let x2 ← (pure []); pure (x1 :: x2)); den_need_log x3); pure ()) >>= fun _ => ((do let ds30 ← (do let x9 ← (do let x7 ← (pure (.int 1)); let x8 ← (do let x5 ← (pure (.int 61)); let x6 ← (pure []); pure (x5 :: x6)); pure (x7 :: x8)); rng2D x9); need (ds30.length ≤ line) (compW ds30 fun d28 => do let t12 ← pure d28; let x29 ← (do let x25 ← (do let x23 ← (do let x22 ← (do let x20 ← (do let x17 ← (do let x15 ← (pure (.str "last")); let x16 ← (do let x13 ← (pure t12); let x14 ← (pure []); pure (x13 :: x14)); pure (x15 :: x16)); pure (.tup x17)); let x21 ← (do let x18 ← (pure v_log); let x19 ← (pure []); pure (x18 :: x19)); pure (x20 :: x21)); (do let r ← den_run x22; pure (tup3 r))); let x24 ← (pure (.int 0)); idxD x23 x24); let x27 ← lstD x25; let x26 ← (pure (.bl true)); countD x27 x26); pure (some x29))) >>= fun s32 => (do let o ← (do let ds ← (do let x37 ← (do let x35 ← (pure (.int 1)); let x36 ← (do let x33 ← (pure (.int 60)); let x34 ← (pure []); pure (x33 :: x34)); pure (x35 :: x36)); rng2D x37); forX ds () fun d38 (s39 : Unit) => pure d38 >>= fun t40 => (do let t52 ← (do let x49 ← (do let x43 ← (pure (.lst s32)); let x44 ← (pure t40); idxD x43 x44); let x50 ← (do let x47 ← (pure (.lst s32)); let x48 ← (do let x45 ← (pure t40); let x46 ← (pure (.int 1)); subD x45 x46); idxD x47 x48); let x51 ← gtD x49 x50; boolD x51); if t52 then (do let d ← (pure t40); pure (.rt d)) else (pure (.nx ())))); outW (fun _ => (pure .non)) o)))
def den_first_anomaly : List D → W D
  | [v_log] => dn_first_anomaly v_log
  | _ => stuck

def dn_need_recorded (v_log : D) (v_value : D) (v_complete : D) : W D := do let t14 ← (do let x13 ← (do let x3 ← (do let x2 ← (do let x1 ← (pure v_value); isiD x1 "tuple"); boolD x2); pure (!x3)); if x13 then pure true else (do let x10 ← (do let x6 ← (do let x4 ← (pure v_value); let x5 ← (pure []); pure (x4 :: x5)); lenD x6); let x11 ← (do let x9 ← (do let x7 ← (pure v_log); let x8 ← (pure []); pure (x7 :: x8)); lenD x9); let x12 ← neD x10 x11; boolD x12)); if t14 then (throwW "InvalidDecisions") else (do let o ← (do let ds ← (do let x15 ← (pure v_value); seqD x15); forX ds () fun d16 (s17 : Unit) => pure d16 >>= fun t18 => (do let t30 ← (do let x29 ← (do let x23 ← (do let x22 ← (do let x21 ← (pure t18); isiD x21 "bool"); boolD x22); pure (!x23)); if x29 then (do let x28 ← (do let x24 ← (pure v_complete); boolD x24); if x28 then pure true else (do let x25 ← (pure t18); let x26 ← (pure .non); let x27 ← isNotD x25 x26; boolD x27)) else pure false); if t30 then (do let d ← (throwW "InvalidDecisions"); pure (.rt d)) else (pure (.nx ())))); outW (fun _ => (pure .non)) o)
def den_need_recorded : List D → W D
  | [v_log, v_value, v_complete] => dn_need_recorded v_log v_value v_complete
  | _ => stuck

def dn_distance (v_kind : D) (v_log : D) (v_flags : D) (v_index : D) : W D := ((do let x6 ← (pure v_kind); let x7 ← (do let x5 ← (do let x3 ← (pure (.str "recent")); let x4 ← (do let x1 ← (pure (.str "renew")); let x2 ← (pure []); pure (x1 :: x2)); pure (x3 :: x4)); pure (.tup x5)); inD x6 x7) >>= fun s9 => ((do let x26 ← (do let x24 ← (pure v_log); let x25 ← (do let x22 ← (pure v_index); let x23 ← (do let x20 ← (do let x19 ← (do let x10 ← (pure s9); boolD x10); if x19 then (do let x17 ← (do let x13 ← (do let x11 ← (pure (.bl true)); let x12 ← (pure []); pure (x11 :: x12)); pure (.lst x13)); let x18 ← (do let x16 ← (do let x14 ← (pure v_log); let x15 ← (pure []); pure (x14 :: x15)); lenD x16); mulD x17 x18) else (pure v_flags)); let x21 ← (pure []); pure (x20 :: x21)); pure (x22 :: x23)); pure (x24 :: x25)); den_latest_copy x26) >>= fun s28 => (do let t32 ← (do let x29 ← (pure s28); let x30 ← (pure .non); let x31 ← isD x29 x30; boolD x31); if t32 then (pure .non) else (do let t36 ← (do let x33 ← (pure v_kind); let x34 ← (pure (.str "last")); let x35 ← eqD x33 x34; boolD x35); if t36 then (do let x46 ← (do let x44 ← (do let x43 ← (do let x41 ← (pure v_flags); let x42 ← (do let x39 ← (pure s28); let x40 ← (do let x37 ← (pure v_index); let x38 ← (pure []); pure (x37 :: x38)); pure (x39 :: x40)); pure (x41 :: x42)); (do let r ← den_accepted_after x43; pure (.lst r))); let x45 ← (pure []); pure (x44 :: x45)); lenD x46) else (do let t50 ← (do let x47 ← (pure v_kind); let x48 ← (pure (.str "recent")); let x49 ← eqD x47 x48; boolD x49); if t50 then (do let x60 ← (do let x58 ← (do let x57 ← (do let x55 ← (pure v_log); let x56 ← (do let x53 ← (pure s28); let x54 ← (do let x51 ← (pure v_index); let x52 ← (pure []); pure (x51 :: x52)); pure (x53 :: x54)); pure (x55 :: x56)); (do let r ← den_others_after x57; pure (.lst r))); let x59 ← (pure []); pure (x58 :: x59)); lenD x60) else (do let x69 ← (do let x63 ← (do let x61 ← (pure v_log); let x62 ← (pure v_index); idxD x61 x62); let x64 ← (pure (.int 0)); idxD x63 x64); let x70 ← (do let x67 ← (do let x65 ← (pure v_log); let x66 ← (pure s28); idxD x65 x66); let x68 ← (pure (.int 0)); idxD x67 x68); subD x69 x70))))))
def den_distance : List D → W D
  | [v_kind, v_log, v_flags, v_index] => dn_distance v_kind v_log v_flags v_index
  | _ => stuck

def dn_fitting_interval (v_kind : D) (v_log : D) (v_recorded : D) : W D := ((do let _ ← (do let x5 ← (do let x3 ← (pure v_kind); let x4 ← (do let x1 ← (pure c_KINDS); let x2 ← (pure []); pure (x1 :: x2)); pure (x3 :: x4)); den_need_kind x5); pure ()) >>= fun _ => ((do let _ ← (do let x9 ← (do let x7 ← (pure v_log); let x8 ← (pure []); pure (x7 :: x8)); den_need_log x9); pure ()) >>= fun _ => ((do let _ ← (do let x17 ← (do let x15 ← (pure v_log); let x16 ← (do let x13 ← (pure v_recorded); let x14 ← (do let x11 ← (pure (.bl true)); let x12 ← (pure []); pure (x11 :: x12)); pure (x13 :: x14)); pure (x15 :: x16)); den_need_recorded x17); pure ()) >>= fun _ => ((do let x22 ← (pure (.int 1)); let x23 ← (do let x21 ← (do let x19 ← (pure v_kind); let x20 ← (pure []); pure (x19 :: x20)); den_largest_size x21); pure (x22, x23)) >>= fun s25 => (do let o ← (do let ds ← (do let x26 ← (pure v_recorded); enumD x26); forX ds (s25.2, s25.1) fun d27 (s28 : D × D) => (patTup 2 (patCons pure (patOne pure))) d27 >>= fun t29 => ((do let x42 ← (do let x40 ← (pure v_kind); let x41 ← (do let x38 ← (pure v_log); let x39 ← (do let x36 ← (pure v_recorded); let x37 ← (do let x34 ← (pure t29.1); let x35 ← (pure []); pure (x34 :: x35)); pure (x36 :: x37)); pure (x38 :: x39)); pure (x40 :: x41)); den_distance x42) >>= fun s44 => (do let t51 ← (do let x50 ← (do let x45 ← (pure s44); let x46 ← (pure .non); let x47 ← isD x45 x46; boolD x47); if x50 then (do let x49 ← (do let x48 ← (pure t29.2); boolD x48); pure (!x49)) else pure false); if t51 then (do let d ← (pure .non); pure (.rt d)) else ((do let t57 ← (do let x56 ← (do let x52 ← (pure s44); let x53 ← (pure .non); let x54 ← isNotD x52 x53; boolD x54); if x56 then (do let x55 ← (pure t29.2); boolD x55) else pure false); if t57 then ((do let x63 ← (do let x61 ← (pure s28.1); let x62 ← (do let x59 ← (pure s44); let x60 ← (pure []); pure (x59 :: x60)); pure (x61 :: x62)); minD x63) >>= fun s65 => (pure s65)) else (pure s28.1)) >>= fun s66 => ((do let t73 ← (do let x72 ← (do let x67 ← (pure s44); let x68 ← (pure .non); let x69 ← isNotD x67 x68; boolD x69); if x72 then (do let x71 ← (do let x70 ← (pure t29.2); boolD x70); pure (!x71)) else pure false); if t73 then ((do let x81 ← (do let x79 ← (pure s28.2); let x80 ← (do let x77 ← (do let x75 ← (pure s44); let x76 ← (pure (.int 1)); addD x75 x76); let x78 ← (pure []); pure (x77 :: x78)); pure (x79 :: x80)); maxD x81) >>= fun s83 => (pure s83)) else (pure s28.2)) >>= fun s84 => (pure (.nx (s66, s84)))))))); outW (fun s85 => (do let x94 ← (do let x86 ← (pure s85.2); let x87 ← (pure s85.1); let x88 ← leD x86 x87; boolD x88); if x94 then (do let x93 ← (do let x91 ← (pure s85.2); let x92 ← (do let x89 ← (pure s85.1); let x90 ← (pure []); pure (x89 :: x90)); pure (x91 :: x92)); pure (.tup x93)) else (pure .non))) o)))))
def den_fitting_interval : List D → W D
  | [v_kind, v_log, v_recorded] => dn_fitting_interval v_kind v_log v_recorded
  | _ => stuck

def dn_agrees (v_flags : D) (v_recorded : D) : W D := do let x23 ← (do let x21 ← (do let x20 ← (do let ds19 ← (do let x5 ← (do let x3 ← (pure v_flags); let x4 ← (do let x1 ← (pure v_recorded); let x2 ← (pure []); pure (x1 :: x2)); pure (x3 :: x4)); zipD x5); need (ds19.length ≤ line) (compW ds19 fun d17 => do let t10 ← (patTup 2 (patCons pure (patOne pure))) d17; let x18 ← (do let x15 ← (do let x11 ← (pure t10.2); let x12 ← (pure .non); isD x11 x12); let x16 ← boolD x15; if x16 then pure (.bl true) else (do let x13 ← (pure t10.2); let x14 ← (pure t10.1); eqD x13 x14)); pure (some x18))); pure (.lst x20)); let x22 ← (pure []); pure (x21 :: x22)); allD x23
def den_agrees : List D → W D
  | [v_flags, v_recorded] => dn_agrees v_flags v_recorded
  | _ => stuck

def dn_fitting_sizes (v_kind : D) (v_log : D) (v_recorded : D) (v_low : D) (v_high : D) : W (List D) := ((do let _ ← (do let x5 ← (do let x3 ← (pure v_kind); let x4 ← (do let x1 ← (pure c_KINDS); let x2 ← (pure []); pure (x1 :: x2)); pure (x3 :: x4)); den_need_kind x5); pure ()) >>= fun _ => ((do let _ ← (do let x9 ← (do let x7 ← (pure v_log); let x8 ← (pure []); pure (x7 :: x8)); den_need_log x9); pure ()) >>= fun _ => ((do let _ ← (do let x17 ← (do let x15 ← (pure v_log); let x16 ← (do let x13 ← (pure v_recorded); let x14 ← (do let x11 ← (pure (.bl false)); let x12 ← (pure []); pure (x11 :: x12)); pure (x13 :: x14)); pure (x15 :: x16)); den_need_recorded x17); pure ()) >>= fun _ => ((do let _ ← (do let x25 ← (do let x23 ← (pure v_kind); let x24 ← (do let x21 ← (pure v_low); let x22 ← (do let x19 ← (pure v_high); let x20 ← (pure []); pure (x19 :: x20)); pure (x21 :: x22)); pure (x23 :: x24)); den_need_sizes x25); pure ()) >>= fun _ => (do let ds39 ← (do let x33 ← (do let x31 ← (pure v_low); let x32 ← (do let x29 ← (do let x27 ← (pure v_high); let x28 ← (pure (.int 1)); addD x27 x28); let x30 ← (pure []); pure (x29 :: x30)); pure (x31 :: x32)); rng2D x33); need (ds39.length ≤ line) (compW ds39 fun d37 => do let t36 ← pure d37; let c58 ← (do let x57 ← (do let x56 ← (do let x54 ← (do let x50 ← (do let x49 ← (do let x47 ← (do let x44 ← (do let x42 ← (pure v_kind); let x43 ← (do let x40 ← (pure t36); let x41 ← (pure []); pure (x40 :: x41)); pure (x42 :: x43)); pure (.tup x44)); let x48 ← (do let x45 ← (pure v_log); let x46 ← (pure []); pure (x45 :: x46)); pure (x47 :: x48)); (do let r ← den_run x49; pure (tup3 r))); let x51 ← (pure (.int 0)); idxD x50 x51); let x55 ← (do let x52 ← (pure v_recorded); let x53 ← (pure []); pure (x52 :: x53)); pure (x54 :: x55)); den_agrees x56); boolD x57); if c58 then (do let x38 ← (pure t36); pure (some x38)) else pure none))))))
def den_fitting_sizes : List D → W (List D)
  | [v_kind, v_log, v_recorded, v_low, v_high] => dn_fitting_sizes v_kind v_log v_recorded v_low v_high
  | _ => stuck

def dn_chain_received (v_rules : D) (v_states : D) (v_tick : D) (v_identifier : D) : W D := ((do let x1 ← (pure []); let x2 ← (pure (.bl true)); pure (x1, x2)) >>= fun s4 => ((do let ds ← (do let x9 ← (do let x7 ← (pure v_rules); let x8 ← (do let x5 ← (pure v_states); let x6 ← (pure []); pure (x5 :: x6)); pure (x7 :: x8)); zipTD x9); forW ds (s4.2, s4.1) fun d10 (s11 : D × List D) => (patTup 2 (patCons pure (patOne pure))) d10 >>= fun t12 => ((do let t18 ← (do let x17 ← (pure s11.1); boolD x17); if t18 then ((do let x32 ← (do let x28 ← (do let x26 ← (pure t12.1); let x27 ← (do let x24 ← (pure t12.2); let x25 ← (do let x22 ← (pure v_tick); let x23 ← (do let x20 ← (pure v_identifier); let x21 ← (pure []); pure (x20 :: x21)); pure (x22 :: x23)); pure (x24 :: x25)); pure (x26 :: x27)); den_received x28); (patTup 2 (patCons pure (patOne pure))) x32) >>= fun s34 => (pure (s34.1, s34.2))) else (pure (s11.1, t12.2))) >>= fun s35 => ((do let x36 ← (pure s35.2); need (List.length s11.2 < line) (pure (s11.2 ++ [x36]))) >>= fun s38 => (pure (s35.1, s38))))) >>= fun s39 => (do let x47 ← (do let x45 ← (pure s39.1); let x46 ← (do let x43 ← (do let x42 ← (do let x40 ← (pure (.lst s39.2)); let x41 ← (pure []); pure (x40 :: x41)); tupleD x42); let x44 ← (pure []); pure (x43 :: x44)); pure (x45 :: x46)); pure (.tup x47))))
def den_chain_received : List D → W D
  | [v_rules, v_states, v_tick, v_identifier] => dn_chain_received v_rules v_states v_tick v_identifier
  | _ => stuck

def dn_in_series (v_first : D) (v_second : D) (v_log : D) : W (List D) := ((do let _ ← (do let x3 ← (do let x1 ← (pure v_first); let x2 ← (pure []); pure (x1 :: x2)); den_need_rule x3); pure ()) >>= fun _ => ((do let _ ← (do let x7 ← (do let x5 ← (pure v_second); let x6 ← (pure []); pure (x5 :: x6)); den_need_rule x7); pure ()) >>= fun _ => ((do let _ ← (do let x11 ← (do let x9 ← (pure v_log); let x10 ← (pure []); pure (x9 :: x10)); den_need_log x11); pure ()) >>= fun _ => ((do let x18 ← (do let x17 ← (do let x15 ← (pure c_EMPTY); let x16 ← (do let x13 ← (pure c_EMPTY); let x14 ← (pure []); pure (x13 :: x14)); pure (x15 :: x16)); pure (.tup x17)); let x19 ← (pure []); pure (x18, x19)) >>= fun s21 => ((do let ds ← (do let x22 ← (pure v_log); seqD x22); forW ds (s21.1, s21.2) fun d23 (s24 : D × List D) => (patTup 2 (patCons pure (patOne pure))) d23 >>= fun t25 => ((do let x47 ← (do let x43 ← (do let x41 ← (do let x34 ← (do let x32 ← (pure v_first); let x33 ← (do let x30 ← (pure v_second); let x31 ← (pure []); pure (x30 :: x31)); pure (x32 :: x33)); pure (.tup x34)); let x42 ← (do let x39 ← (pure s24.1); let x40 ← (do let x37 ← (pure t25.1); let x38 ← (do let x35 ← (pure t25.2); let x36 ← (pure []); pure (x35 :: x36)); pure (x37 :: x38)); pure (x39 :: x40)); pure (x41 :: x42)); den_chain_received x43); (patTup 2 (patCons pure (patOne pure))) x47) >>= fun s49 => ((do let x50 ← (pure s49.1); need (List.length s24.2 < line) (pure (s24.2 ++ [x50]))) >>= fun s52 => (pure (s49.2, s52))))) >>= fun s53 => (pure s53.2))))))
def den_in_series : List D → W (List D)
  | [v_first, v_second, v_log] => dn_in_series v_first v_second v_log
  | _ => stuck

def dn_side_by_side (v_first : D) (v_second : D) (v_log : D) : W (List D) := ((do let _ ← (do let x3 ← (do let x1 ← (pure v_first); let x2 ← (pure []); pure (x1 :: x2)); den_need_rule x3); pure ()) >>= fun _ => ((do let _ ← (do let x7 ← (do let x5 ← (pure v_second); let x6 ← (pure []); pure (x5 :: x6)); den_need_rule x7); pure ()) >>= fun _ => ((do let _ ← (do let x11 ← (do let x9 ← (pure v_log); let x10 ← (pure []); pure (x9 :: x10)); den_need_log x11); pure ()) >>= fun _ => (do let ds41 ← (do let x31 ← (do let x29 ← (do let x18 ← (do let x17 ← (do let x15 ← (pure v_first); let x16 ← (do let x13 ← (pure v_log); let x14 ← (pure []); pure (x13 :: x14)); pure (x15 :: x16)); (do let r ← den_run x17; pure (tup3 r))); let x19 ← (pure (.int 0)); idxD x18 x19); let x30 ← (do let x27 ← (do let x25 ← (do let x24 ← (do let x22 ← (pure v_second); let x23 ← (do let x20 ← (pure v_log); let x21 ← (pure []); pure (x20 :: x21)); pure (x22 :: x23)); (do let r ← den_run x24; pure (tup3 r))); let x26 ← (pure (.int 0)); idxD x25 x26); let x28 ← (pure []); pure (x27 :: x28)); pure (x29 :: x30)); zipD x31); need (ds41.length ≤ line) (compW ds41 fun d39 => do let t36 ← (patTup 2 (patCons pure (patOne pure))) d39; let x40 ← (do let x37 ← (pure t36.1); let x38 ← boolD x37; if x38 then (pure t36.2) else pure (.bl false)); pure (some x40))))))
def den_side_by_side : List D → W (List D)
  | [v_first, v_second, v_log] => dn_side_by_side v_first v_second v_log
  | _ => stuck

end DG

/-! ## DC9 -/
set_option Elab.async false
set_option linter.all false
set_option maxRecDepth 100000
set_option maxHeartbeats 4000000
namespace DG
open PySem PySem.Spec PyProof.Rows L2

def dn_is_gate_list (v_value : D) : W D := do let t33 ← (do let x32 ← (do let x3 ← (do let x2 ← (do let x1 ← (pure v_value); isiTD x1 "tuple"); boolD x2); pure (!x3)); if x32 then pure true else (do let x31 ← (do let x12 ← (do let x6 ← (do let x4 ← (pure v_value); let x5 ← (pure []); pure (x4 :: x5)); lenTD x6); let x13 ← (do let x11 ← (do let x9 ← (pure (.int 1)); let x10 ← (do let x7 ← (pure (.int 2)); let x8 ← (pure []); pure (x7 :: x8)); pure (x9 :: x10)); pure (.tup x11)); let x14 ← notInD x12 x13; boolD x14); if x31 then pure true else (do let x30 ← (do let x29 ← (do let x28 ← (do let x26 ← (do let x25 ← (do let ds24 ← (do let x15 ← (pure v_value); seqD x15); need (ds24.length ≤ line) (compW ds24 fun d22 => do let t18 ← pure d22; let x23 ← (do let x21 ← (do let x19 ← (pure t18); let x20 ← (pure []); pure (x19 :: x20)); den_is_rule x21); pure (some x23))); pure (.lst x25)); let x27 ← (pure []); pure (x26 :: x27)); allD x28); boolD x29); pure (!x30)))); if t33 then (pure (.bl false)) else (do let x48 ← (do let x46 ← (do let x45 ← (do let ds44 ← (do let x34 ← (pure v_value); seqD x34); need (ds44.length ≤ line) (compW ds44 fun d42 => do let t37 ← pure d42; let x43 ← (do let x40 ← (do let x38 ← (pure t37); let x39 ← (pure (.int 1)); idxD x38 x39); let x41 ← (pure (.int 6)); leD x40 x41); pure (some x43))); pure (.lst x45)); let x47 ← (pure []); pure (x46 :: x47)); allD x48)
def den_is_gate_list : List D → W D
  | [v_value] => dn_is_gate_list v_value
  | _ => stuck

def dn_next_messages (v_log : D) : W D := do let t5 ← (do let x2 ← (pure v_log); let x3 ← (do let x1 ← (pure []); pure (.tup x1)); let x4 ← eqD x2 x3; boolD x4); if t5 then (do let x18 ← (do let ds17 ← (do let x6 ← (pure c_NAMES); seqD x6); need (ds17.length ≤ line) (compW ds17 fun d15 => do let t9 ← pure d15; let x16 ← (do let x14 ← (do let x12 ← (pure (.int 0)); let x13 ← (do let x10 ← (pure t9); let x11 ← (pure []); pure (x10 :: x11)); pure (x12 :: x13)); pure (.tup x14)); pure (some x16))); pure (.lst x18)) else ((do let x22 ← (do let x20 ← (pure v_log); let x21 ← (do let x19 ← (pure (.int 1)); negD x19); idxD x20 x21); let x23 ← (pure (.int 0)); idxD x22 x23) >>= fun s25 => ((do let x26 ← (pure []); pure (.lst x26)) >>= fun s28 => ((do let ds ← (do let x31 ← (do let x29 ← (pure (.int 3)); let x30 ← (pure []); pure (x29 :: x30)); rng1D x31); forW ds s28 fun d32 (s33 : D) => pure d32 >>= fun t34 => ((do let x52 ← (pure s33); let x53 ← (do let x51 ← (do let ds50 ← (do let x37 ← (pure c_NAMES); seqD x37); need (ds50.length ≤ line) (compW ds50 fun d48 => do let t40 ← pure d48; let x49 ← (do let x47 ← (do let x45 ← (do let x41 ← (pure s25); let x42 ← (pure t34); addD x41 x42); let x46 ← (do let x43 ← (pure t40); let x44 ← (pure []); pure (x43 :: x44)); pure (x45 :: x46)); pure (.tup x47)); pure (some x49))); pure (.lst x51)); addD x52 x53) >>= fun s55 => (pure s55))) >>= fun s56 => (pure s56))))
def den_next_messages : List D → W D
  | [v_log] => dn_next_messages v_log
  | _ => stuck

def dn_telling_log (v_one : D) (v_other : D) (v_length : D) : W D := do let t12 ← (do let x11 ← (do let x5 ← (do let x4 ← (do let x3 ← (do let x1 ← (pure v_one); let x2 ← (pure []); pure (x1 :: x2)); den_is_gate_list x3); boolD x4); pure (!x5)); if x11 then pure true else (do let x10 ← (do let x9 ← (do let x8 ← (do let x6 ← (pure v_other); let x7 ← (pure []); pure (x6 :: x7)); den_is_gate_list x8); boolD x9); pure (!x10))); if t12 then (throwW "InvalidGate") else (do let t22 ← (do let x21 ← (do let x20 ← (do let x19 ← (do let x17 ← (pure v_length); let x18 ← (do let x15 ← (pure (.int 1)); let x16 ← (do let x13 ← (pure (.int 5)); let x14 ← (pure []); pure (x13 :: x14)); pure (x15 :: x16)); pure (x17 :: x18)); den_is_integer x19); boolD x20); pure (!x21)); if t22 then (throwW "InvalidLength") else ((do let x49 ← (do let x47 ← (do let x46 ← (do let x44 ← (do let x23 ← (pure []); pure (.tup x23)); let x45 ← (do let x42 ← (do let x30 ← (do let x26 ← (do let x24 ← (pure c_EMPTY); let x25 ← (pure []); pure (x24 :: x25)); pure (.tup x26)); let x31 ← (do let x29 ← (do let x27 ← (pure v_one); let x28 ← (pure []); pure (x27 :: x28)); lenD x29); mulTD x30 x31); let x43 ← (do let x40 ← (do let x38 ← (do let x34 ← (do let x32 ← (pure c_EMPTY); let x33 ← (pure []); pure (x32 :: x33)); pure (.tup x34)); let x39 ← (do let x37 ← (do let x35 ← (pure v_other); let x36 ← (pure []); pure (x35 :: x36)); lenD x37); mulTD x38 x39); let x41 ← (pure []); pure (x40 :: x41)); pure (x42 :: x43)); pure (x44 :: x45)); pure (.tup x46)); let x48 ← (pure []); pure (x47 :: x48)); pure (.lst x49)) >>= fun s51 => (do let o ← (do let ds ← (do let x54 ← (do let x52 ← (pure v_length); let x53 ← (pure []); pure (x52 :: x53)); rng1D x54); forX ds s51 fun d55 (s56 : D) => pure d55 >>= fun t57 => ((pure []) >>= fun s61 => (do let o ← (do let ds ← (do let x62 ← (pure s56); seqD x62); forX ds s61 fun d63 (s64 : List D) => (patTup 3 (patCons pure (patCons pure (patOne pure)))) d63 >>= fun t65 => (do let o ← (do let ds ← (do let x75 ← (do let x74 ← (do let x72 ← (pure t65.1); let x73 ← (pure []); pure (x72 :: x73)); den_next_messages x74); seqD x75); forX ds s64 fun d76 (s77 : List D) => (patTup 2 (patCons pure (patOne pure))) d76 >>= fun t78 => ((do let x95 ← (do let x91 ← (do let x89 ← (pure v_one); let x90 ← (do let x87 ← (pure t65.2.1); let x88 ← (do let x85 ← (pure t78.1); let x86 ← (do let x83 ← (pure t78.2); let x84 ← (pure []); pure (x83 :: x84)); pure (x85 :: x86)); pure (x87 :: x88)); pure (x89 :: x90)); den_chain_received x91); (patTup 2 (patCons pure (patOne pure))) x95) >>= fun s97 => ((do let x110 ← (do let x106 ← (do let x104 ← (pure v_other); let x105 ← (do let x102 ← (pure t65.2.2); let x103 ← (do let x100 ← (pure t78.1); let x101 ← (do let x98 ← (pure t78.2); let x99 ← (pure []); pure (x98 :: x99)); pure (x100 :: x101)); pure (x102 :: x103)); pure (x104 :: x105)); den_chain_received x106); (patTup 2 (patCons pure (patOne pure))) x110) >>= fun s112 => (do let t116 ← (do let x113 ← (pure s97.1); let x114 ← (pure s112.1); let x115 ← neD x113 x114; boolD x115); if t116 then (do let d ← (do let x125 ← (pure t65.1); let x126 ← (do let x124 ← (do let x122 ← (do let x121 ← (do let x119 ← (pure t78.1); let x120 ← (do let x117 ← (pure t78.2); let x118 ← (pure []); pure (x117 :: x118)); pure (x119 :: x120)); pure (.tup x121)); let x123 ← (pure []); pure (x122 :: x123)); pure (.tup x124)); addD x125 x126); pure (.rt d)) else ((do let x144 ← (do let x143 ← (do let x141 ← (do let x135 ← (pure t65.1); let x136 ← (do let x134 ← (do let x132 ← (do let x131 ← (do let x129 ← (pure t78.1); let x130 ← (do let x127 ← (pure t78.2); let x128 ← (pure []); pure (x127 :: x128)); pure (x129 :: x130)); pure (.tup x131)); let x133 ← (pure []); pure (x132 :: x133)); pure (.tup x134)); addD x135 x136); let x142 ← (do let x139 ← (pure s97.2); let x140 ← (do let x137 ← (pure s112.2); let x138 ← (pure []); pure (x137 :: x138)); pure (x139 :: x140)); pure (x141 :: x142)); pure (.tup x143)); need (List.length s77 < line) (pure (s77 ++ [x144]))) >>= fun s146 => (pure (.nx s146))))))); out2W (fun s147 => (pure (.nx s147))) o)); out2W (fun s148 => ((pure (.lst s148)) >>= fun s150 => (pure (.nx s150)))) o))); outW (fun s151 => (pure .non)) o)))
def den_telling_log : List D → W D
  | [v_one, v_other, v_length] => dn_telling_log v_one v_other v_length
  | _ => stuck

end DG

/-! ## DC4 -/
set_option Elab.async false
set_option linter.all false
set_option maxRecDepth 100000
set_option maxHeartbeats 4000000
namespace DG
open PySem PySem.Spec PyProof.Rows L2

def dn__law_series (v_first : D) (v_second : D) (v_log : D) : W (List D) := ((do let x5 ← (do let x3 ← (pure v_first); let x4 ← (do let x1 ← (pure v_log); let x2 ← (pure []); pure (x1 :: x2)); pure (x3 :: x4)); (do let r ← den__law_flags x5; pure (.lst r))) >>= fun s7 => ((do let ds20 ← (do let x12 ← (do let x10 ← (pure v_log); let x11 ← (do let x8 ← (pure s7); let x9 ← (pure []); pure (x8 :: x9)); pure (x10 :: x11)); zipD x12); need (ds20.length ≤ line) (compW ds20 fun d18 => do let t17 ← (patTup 2 (patCons pure (patOne pure))) d18; let c22 ← (do let x21 ← (pure t17.2); boolD x21); if c22 then (do let x19 ← (pure t17.1); pure (some x19)) else pure none)) >>= fun s24 => ((do let x29 ← (do let x27 ← (pure v_second); let x28 ← (do let x25 ← (pure (.lst s24)); let x26 ← (pure []); pure (x25 :: x26)); pure (x27 :: x28)); den__law_flags x29) >>= fun s31 => (do let ds33 ← (do let x32 ← (pure s7); seqD x32); need (ds33.length ≤ line) (popW ds33 s31)))))
def den__law_series : List D → W (List D)
  | [v_first, v_second, v_log] => dn__law_series v_first v_second v_log
  | _ => stuck

end DG

/-! ## DG29 -/
set_option Elab.async false
set_option linter.all false
set_option maxRecDepth 100000
set_option maxHeartbeats 4000000
namespace DG
open PySem PySem.Spec PyProof.Rows L2

/-! ### a def that is called where no repr is under way -/
structure FnG (P : Program) (w : World) (K : PySem.W.Frag) (mg : Str → Option Value) (base : Heap) (k : Nat) (f : Addr) (fd : FuncData) (ps : List Str) (sp : Sp) : Prop where
  len : ∀ vs H Q E, sp vs H Q E → vs.length = ps.length
  at_ : ∀ (A : Around), A.guards = some [] → Room k A → ∀ (outer : List Env) (s : Shared) (H : Hp) (args : Args) (us : List Value) (vs : List V) (Q : VK) (E : XK), Env0 P w K mg base A outer s H →
    BindsTo s fd args (ps.zip us) → Vals vs us → sp vs H Q E → codeAny (model P w) A (.call (.ref f) args) (CR (L2N.CX P w) outer P w H s Q E) s
theorem fn_ofG {P : Program} {w : World} {K : PySem.W.Frag} {mg : Str → Option Value} {base : Heap} {k : Nat} {x qual : Str} {st : Stmt} {f : Addr} {fd : FuncData} {N ps : List Str} {sp : Sp} (F : Fun K x qual st f fd) (S : FnScope N ps (defScope st))
    (hl : ∀ vs H Q E, sp vs H Q E → vs.length = ps.length)
    (hb : ∀ cdv A outer s H vs Q E, A.guards = some [] → Room k (A.deeper (envOfC qual (defScope st) s.heap.objs.size f cdv)) → sp vs H Q E →
      ∃ t, PSs (cx P w K mg base N qual st f cdv A outer s H E) (defBody st) t ∧ t { nx := fun _ H' => Q .non H', rt := Q } (L2.start N vs) H) : FnG P w K mg base (k + 1) f fd ps sp := by
  obtain ⟨oc, od, kV, doc, pm, an, cdv, ct, osl, e, look, code⟩ := F.ex
  subst e
  refine ⟨hl, fun A gd room outer s H args us vs Q E e0 bt rv want => ?_⟩
  have same : ∀ b o, base.get? b = some o → s.heap.get? b = some o := fun b o e => (e0.bs b o e).1
  have KH : K.In s.heap := PySem.W.Frag.In.keeps e0.mod.kin same
  have nolim : s.heap.NoLimit := Heap.NoLimit.keeps e0.mod.nolimit same
  have kinds : ∀ y ∈ ps.zip us, (defScope st).names.lookup y.1 = some .local ∨
      ((defScope st).names.lookup y.1 = some .cell ∧ ((cellsFrom (s.heap.objs.size + 1) (defScope st).names []).lookup y.1).isSome = true) := by
    intro y hy
    rcases S.par y.1 (List.of_mem_zip (a := y.1) (b := y.2) hy).1 with z | z
    · exact .inl z
    · exact .inr ⟨z, PySem.W.cellsFrom_some _ _ _ (.inl z)⟩
  have lenV := hl _ _ _ _ want
  refine codeAny_call_function room.depth (KH _ _ look) rfl S.co S.gen rfl (PySem.W.codeRec_of KH code) (bt _ _ _ _ ?_)
  refine wpAny_newFunctionEnv_cells S.kind kinds fun env heq s1 bd => ?_
  subst heq
  refine ⟨Heap.NoLimit.keeps nolim bd.toInCall.keep, codeAny_func ?_⟩
  obtain ⟨t, run, at1⟩ := hb cdv A outer s H vs Q E gd (room.deeper _) want
  have I0 : Inv (cx P w K mg base N qual st f cdv A outer s H E) [] (L2.start N vs) H s1 := inv_start S room.hd e0 lenV rv bd
  refine wpAny_mono (run.run [] s1 (L2.start N vs) H _ I0 at1) (fun fl s' got => ?_) fun _ _ got => got
  cases fl with
  | brk =>
    obtain ⟨_, _, _, no⟩ := got
    exact no.elim
  | cont =>
    obtain ⟨_, _, _, no⟩ := got
    exact no.elim
  | next =>
    obtain ⟨σ', H', J, q⟩ := got
    exact ⟨V.non, H', J.os, J.bare, J.base, J.hok, rfl, q⟩
  | ret u =>
    obtain ⟨v, σ', H', J, ru, q⟩ := got
    exact ⟨v, H', J.os, J.bare, J.base, J.hok, ru, q⟩
/-- the head, for such a def -/
theorem law_callG {P : Program} {w : World} {K : PySem.W.Frag} {mg mb : Str → Option Value} {k : Nat} {fa a : Addr} {fd : FuncData} {x : Str} {sp : Sp} {s1 : Shared} {vs : List Value} {ns : List Int}
    (KX : K.In s1.heap) (hmg : s1.heap.Ns mainGlobals mg) (hmb : s1.heap.Ns builtinsNs mb) (boot : ∀ x : Str, x ≠ "__name__" → mb x = bootBuiltins x) (nolim : s1.heap.NoLimit) (gens : s1.gens = #[])
    (script : s1.heap.get? a = some { cls := .type "list", data := .seq vs.toArray }) (isI : IntsAre vs ns) (few : ns.length ≤ sizeLine) (room : Room k callerA)
    (F : ∀ base : Heap, FnG P w K mg base k fa fd [x] sp) (bt : ∀ (s : Shared) (u : Value), BindsTo s fd ⟨[u], []⟩ [(x, u)])
    (want : ∀ H : Hp, Only H → SqL K H a (ns.map V.int) → sp [.ref a] H (fun v _ => v = .bl true) fun _ _ _ => False)
    (noX : ∀ H e s', L2N.CX P w [] H s1 (fun _ _ _ => False) e s' → False) :
    codeAny (model P w) callerA (.call (.ref fa) ⟨[.ref a], []⟩) (fun r s' => r = .ok (.ret (.bool true)) ∧ OldK s1.heap s'.heap ∧ s'.os = s1.os ∧ AllBare s'.gens) s1 := by
  have main : ∀ H : Hp, (∀ b, H b ≠ none → b = a ∧ K.lookup a = none) → Only H → SqL K H a (ns.map V.int) → HOk P w H s1.heap →
      codeAny (model P w) callerA (.call (.ref fa) ⟨[.ref a], []⟩) (fun r s' => r = .ok (.ret (.bool true)) ∧ OldK s1.heap s'.heap ∧ s'.os = s1.os ∧ AllBare s'.gens) s1 := by
    intro H only1 only hsq hok
    have low : ∀ {b : Addr} {o : Obj}, s1.heap.get? b = some o → (b = a → False) → (hidT s1.heap H).get? b = some o := fun {b o} e n => hidT_get e (Classical.byContradiction fun z => n (only1 b z).1)
    have nsB : ∀ {b : Addr} {m : Str → Option Value}, s1.heap.Ns b m → (hidT s1.heap H).Ns b m := by
      intro b m h
      obtain ⟨o, es, ep, e, d, r⟩ := h
      refine ⟨o, es, ep, low e fun z => ?_, d, r⟩
      rw [z, script] at e
      cases e
      cases d
    have kB : K.In (hidT s1.heap H) := by
      intro b o e
      refine hidT_get (KX b o e) (Classical.byContradiction fun z => ?_)
      obtain ⟨z1, z2⟩ := only1 b z
      rw [z1, z2] at e
      cases e
    have mod : Mod K mg (hidT s1.heap H) := by
      obtain ⟨mc, c1, c2⟩ := nolim
      exact ⟨kB, nsB hmg, ⟨mb, nsB hmb, boot⟩, ⟨mc, nsB c1, c2⟩⟩
    have e0 : Env0 P w K mg (hidT s1.heap H) callerA [] s1 H := {
      frames := rfl, mod := mod, bs := fun b o e => of_hidT e, bsz := Nat.le_of_eq (hidT_size _ _), funs := trivial
      frf := fun b m => absurd (show b ∈ ([] : List Addr) from m) (List.not_mem_nil), hok := hok, bare := .of_eq gens }
    refine codeAny_mono ((F _).at_ callerA rfl room [] s1 H ⟨[.ref a], []⟩ [.ref a] [.ref a] _ _ e0 (bt s1 (.ref a)) (.cons rfl .nil) (want H only hsq)) fun r s' got => ?_
    cases r with
    | error e => exact (noX H e s' got).elim
    | ok fl =>
      cases fl with
      | ret u =>
        obtain ⟨v, H', os, bare, un, hok', ru, q⟩ := got
        have qv : v = .bl true := q
        subst qv
        have eu : u = Value.bool true := ru
        subst eu
        refine ⟨rfl, OldK.of_keep fun b o e => ?_, os, bare⟩
        cases hb : H b with
        | none => exact un.keep b o e hb (fun z => absurd (show b ∈ ([] : List Addr) from z) List.not_mem_nil) List.not_mem_nil
        | some u =>
          rcases only b with z | ⟨ob, xs, z⟩
          · rw [hb] at z
            cases z
          · obtain ⟨e1, _⟩ := hok b _ z
            obtain ⟨e2, _⟩ := hok' b _ (un.frzs b ob _ z)
            rw [e] at e1
            cases e1
            exact e2
      | next => exact False.elim got
      | brk => exact False.elim got
      | cont => exact False.elim got
  have valsV := vals_ints isI
  cases known : K.lookup a with
  | some o =>
    have e := KX a o known
    rw [script] at e
    cases e
    refine main (fun _ => none) (fun _ z => absurd rfl z) (fun _ => .inl rfl) (.inr ⟨_, vs.toArray, _, known, rfl, rfl, rfl, ?_, ?_⟩) fun b u z => ?_
    · rw [List.size_toArray, isI.length]
      exact few
    · exact valsV
    · exact absurd (show (none : Option HO) = some u from z) (fun z => nomatch z)
  | none =>
    let ob : Obj := { cls := .type "list", data := .seq vs.toArray }
    have at_a : ∀ b u, (if b = a then some (HO.frz ob (.lst (ns.map V.int))) else none) = some u → b = a ∧ u = HO.frz ob (.lst (ns.map V.int)) := fun b u z => by
      by_cases e : b = a
      · rw [if_pos e] at z
        cases z
        exact ⟨e, rfl⟩
      · rw [if_neg e] at z
        cases z
    refine main (fun b => if b = a then some (.frz ob (.lst (ns.map V.int))) else none) (fun b z => ?_) (fun b => ?_) (.inl (.inr ⟨ob, if_pos rfl⟩)) fun b u z => ?_
    · by_cases e : b = a
      · exact ⟨e, known⟩
      · exact absurd (if_neg e) z
    · by_cases e : b = a
      · exact .inr ⟨ob, _, if_pos e⟩
      · exact .inl (if_neg e)
    · obtain ⟨e1, e2⟩ := at_a b u z
      subst e1
      subst e2
      refine ⟨script, ?_, vs, _, valsV, script⟩
      rw [List.length_map]
      exact few
/-- the law, where repr may be asked -/
theorem law_okG {P : Program} {w : World} {K : PySem.W.Frag} {mg : Str → Option Value} {base : Heap} {x : Str} {st : Stmt} {f : Addr} {fd : FuncData} {N : List Str} {k jj ib : Nat} {p1 p2 p3 p4 p5 p6 : Pos} {lim : Int} {body rest : List Stmt} {denB : List D → W D} {fB : List Int → W (Out Unit)} {fR : List Int → W D}
    (F : Fun K x x st f fd) (S : FnScope N ["script"] (defScope st)) (hst : defBody st = .For (.Name "bag" p1) (.Call (.Name "_law_bags" p2) [.Name "script" p3, .Constant (.int lim) jj p4] [] p5) body [] p6 :: rest) (hN : N.length = (N.length - 1) + 1 := by rfl) (hib : N[ib]? = some "bag" := by rfl)
    (FB : DefD P w K mg base k "_law_bags" ["script", "limit"] (SpD K mg 2 denB)) (hB : ∀ ns : List Int, (∀ z ∈ ns, Builtin.Int.intBits z ≤ 1048576) → denB [.scr ns, .int lim] (fun d => ∃ bss : List (List Int), d = .lst (bss.map bagD) ∧ ∀ ds ∈ bss, drawsOk ds) fun _ => False)
    (hib0 : 0 < ib := by decide) (hibN : ib < N.length := by decide)
    (walkB : ∀ cdv A outer s H E, A.guards = some [] → Cd (cx P w K mg base N x st f cdv A outer s H E) E k → ∀ ns, SX (cx P w K mg base N x st f cdv A outer s H E) E body ((.d (.scr ns) :: List.replicate (N.length - 1) .no).set ib (.d .bag)) (fun _ : Unit => .d (.scr ns) :: List.replicate (N.length - 1) .no) (fB ns))
    (hfB : ∀ ns (Q : Out Unit → Prop), (∀ o, goodO o → Q o) → (fB ns) Q fun _ => False)
    (walkR : ∀ cdv A outer s H E, A.guards = some [] → Cd (cx P w K mg base N x st f cdv A outer s H E) E k → ∀ ns, SR (cx P w K mg base N x st f cdv A outer s H E) E false rest (.d (.scr ns) :: List.replicate (N.length - 1) .no) (fR ns))
    (hfR : ∀ ns, (fR ns) (fun d => d = .bl true) fun _ => False)
    (gx : ∀ cdv A outer s H E ns, GX (cx P w K mg base N x st f cdv A outer s H E) (.Name "bag" p1) [ib] (.d (.scr ns) :: List.replicate (N.length - 1) .no) pure fun d => (.d (.scr ns) :: List.replicate (N.length - 1) .no).set ib (.d d))
    (ea : ∀ cdv A outer s H E, Cd (cx P w K mg base N x st f cdv A outer s H E) E k → ∀ ns, EX (cx P w K mg base N x st f cdv A outer s H E) E (.Call (.Name "_law_bags" p2) [.Name "script" p3, .Constant (.int lim) jj p4] [] p5) (.d (.scr ns) :: List.replicate (N.length - 1) .no) (denB [.scr ns, .int lim]))
    (hs : ∀ cdv A outer s H E x', foldedSetIterable (.Call (.Name "_law_bags" p2) [.Name "script" p3, .Constant (.int lim) jj p4] [] p5) (cx P w K mg base N x st f cdv A outer s H E).env x' = pure x' := by intros; rfl) :
    FnG P w K mg base (k + 1) f fd ["script"] (spLaw K) := by
  refine fn_ofG F S (fun vs H Q E h => by obtain ⟨ns, v, e, _⟩ := h; rw [e]; rfl) fun cdv A outer s H vs Q E gd hr h => ?_
  have C := cd_of (P := P) (w := w) (K := K) (mg := mg) (base := base) (outer := outer) (H := H) (E := E) S.nd hr
  exact law_body C h hst hN hib FB hB hib0 hibN (walkB cdv A outer s H E gd C) hfB (walkR cdv A outer s H E gd C) hfR (gx cdv A outer s H E) (ea cdv A outer s H E C) (hs cdv A outer s H E)
/-- the end of such a law -/
theorem walk_ofG {l : PySem.W.OpenLaw} {n k : Nat} {q : Program} {loose : List Str} {XP : (Str → Option Value) → Heap → Prop} {YP : World → Heap → Prop} {d : DefRec}
    (hn : l.most = some n) (hn2 : n ≤ sizeLine) (hdf : d.params.defaults = []) (hr : Room k callerA)
    (F : ∀ (w : World) (mg : Str → Option Value) (fa : Addr) (h : Heap), YP w h → h.Ns mainGlobals mg → mg d.name = some (.ref fa) →
      ∃ (K : PySem.W.Frag) (fd : FuncData), K.In h ∧ (∀ (s : Shared) (u : Value), BindsTo s fd ⟨[u], []⟩ [("script", u)]) ∧ ∀ base : Heap, FnG l.prog w K mg base k fa fd ["script"] (spLaw K)) :
    PySem.W.WalkO q loose XP YP l.row.toRowW d [] (fun f vs => PySem.call f vs) := by
  refine Att.attach_callB hn hdf fun w s₀ s₁ mg mb fa o pm cd doc a vs ns G Y ho hd hcd hmg hobj hints hlen hbits hg => ?_
  obtain ⟨K, fd, KX, hb, hF⟩ := F w mg fa _ Y G.T.g hmg
  refine law_callG KX G.T.g G.T.b G.T.builtins G.T.nolimit hg hobj hints (Nat.le_trans hlen hn2) hr hF hb (fun H hO hS => ⟨ns, .ref a, rfl, scr_of hO hS, hbits, fun _ => rfl⟩) fun H e s' h => ?_
  obtain ⟨_, _, _, _, _, _, _, _, _, _, _, _, z⟩ := h
  exact z

/-! ### repr -/
theorem boot_repr : bootBuiltins "repr" = some (.builtin "repr") := by decide +kernel
def reprD : List D → W D
  | [d] => need (d.shp = true ∧ d.py.showable = true ∧ d.py.shown.length ≤ line) (pure (.str d.py.shown))
  | _ => stuck
theorem call_reprD {X : Cx} (hu : X.A.units + 66 < cLine) (hg : X.A.guards = some []) : CallR X (.builtin "repr") (fun xs H Q => ∃ v d, xs = [v] ∧ Dp X.K H v d ∧ SeqAt.shaped d = true ∧ d.showable = true ∧ d.shown.length ≤ sizeLine ∧ Q (.str d.shown) H) := by
  intro pins s σ H xs us Q I r h
  obtain ⟨v, d, rfl, hd, hs, hw, hz, q⟩ := h
  obtain ⟨u, rfl, ru⟩ := Vals.one r
  obtain ⟨as, rd⟩ := Dp.reads I d v u hd ru
  have fin : ∀ t, EP X pins σ Q (.str d.shown t) { s with toks := s.toks + 1 } := fun t => ⟨.str d.shown, H, I.tok _, ⟨t, rfl⟩, q⟩
  have big : ∀ a, u = .ref a → wpAny (model X.prog X.w) X.A (call (.builtin "repr") [u]) (EP X pins σ Q) X.xe s := fun a e => by
    subst e
    have hc : d.canLay0 = true := SeqAt.canLay_of_shaped hs
    refine repr_of_reads' (h₀ := s.heap) rd hw (fun z => by rw [PyData.hasDict_of_canLay d hc] at z; cases z) hg ?_ (fun _ _ e => e) (fun h' t tk k => ⟨.str d.shown, H, I.kept k, ⟨t, rfl⟩, q⟩) hz
    have := SeqAt.depth_of_shaped hs
    omega
  cases rd with
  | none => exact PySem.P.repr_of_none (by have := fin s.toks; simpa [PyData.shown] using this)
  | bool b => exact PySem.P.repr_of_bool (by have := fin s.toks; simpa [PyData.shown] using this)
  | int i t => exact PySem.P.repr_of_int (by simpa [PyData.showable] using hw) (by have := fin s.toks; simpa [PyData.shown] using this)
  | str x t => exact PySem.P.repr_of_str (by have := fin s.toks; simpa [PyData.shown] using this) (by simpa [PyData.shown] using hz)
  | list _ _ _ _ => exact big _ rfl
  | tuple _ _ _ _ => exact big _ rfl
  | dict _ _ _ _ _ => exact big _ rfl
theorem cd_repr {X : Cx} {E : XK} {k : Nat} (C : Cd X E k) (hg : X.A.guards = some []) : CallD X (.builtin "repr") reprD := by
  have hu : X.A.units + 66 < cLine := by have := C.room.un; omega
  refine ⟨_, call_reprD hu hg, fun Mb M B H ds vs P EE Q o il p q => ?_⟩
  match ds, il, p with
  | [d], il, p =>
    obtain ⟨v, e, i⟩ := isOne il
    obtain ⟨⟨h1, h2, h3⟩, p⟩ := p
    exact ⟨v, d.py, e, dp_shp h1 i, h1, h2, line_ok h3, q.here o p rfl⟩
  | [], il, p => exact False.elim p
  | a :: b :: c, il, p => exact False.elim p
end DG

/-! ## M1 -/
set_option Elab.async false
set_option linter.all false
set_option maxRecDepth 100000
set_option maxHeartbeats 4000000
/-! # gates, in plain lists -/
namespace DG
/-- the four kinds -/
inductive Kd where
  | last | recent | hold | renew
deriving DecidableEq
def Kd.cnt : Kd → Bool
  | .last => true
  | .recent => true
  | _ => false
/-- the memory turns at an acceptance only -/
def Kd.acc : Kd → Bool
  | .last => true
  | .hold => true
  | _ => false
section
variable {α : Type} [DecidableEq α]
abbrev MemG (α : Type) := List (α × Int)
def remG (k : Kd) (n : Int) (st : MemG α) (t : Int) (x : α) : Bool := match st.lookup x with
  | none => false
  | some w => k.cnt || decide (t - w < n)
def shortG (k : Kd) (n : Int) (st : MemG α) : MemG α := if k.cnt then st.drop (st.length - n.toNat) else st
def dropG (x : α) (st : MemG α) : MemG α := st.eraseP fun p => p.1 == x
def recG (k : Kd) (n : Int) (st : MemG α) (t : Int) (x : α) : Bool × MemG α :=
  if remG k n st t x && k.acc then (false, st) else (!remG k n st t x, shortG k n (dropG x st ++ [(x, t)]))
def knownG (k : Kd) (n : Int) (st : MemG α) (t : Int) : List α := (st.map (·.1)).filter fun x => remG k n st t x
/-! ### the plain reading: all that was received, with the decisions -/
abbrev PastG (α : Type) := List (Int × α × Bool)
def uniqStep (found : List α) (n : Int) (x : α) : List α := if x ∉ found ∧ (found.length : Int) < n then found ++ [x] else found
def lastNames (names : List α) (n : Int) : List α := names.reverse.foldl (fun f x => uniqStep f n x) []
def foundStep (k : Kd) (n t : Int) (found : List α) (p : Int × α × Bool) : List α := if t - p.1 < n ∧ p.2.1 ∉ found ∧ (p.2.2 = true ∨ k = .renew) then found ++ [p.2.1] else found
def accNames (past : PastG α) : List α := (past.filter (·.2.2)).map (·.2.1)
def memG (k : Kd) (n : Int) (past : PastG α) (t : Int) : List α := match k with
  | .last => (accNames past).drop ((accNames past).length - n.toNat)
  | .recent => lastNames (past.map (·.2.1)) n
  | k => past.foldl (foundStep k n t) []
def pastStep (k : Kd) (n : Int) (past : PastG α) (p : Int × α) : PastG α := past ++ [(p.1, p.2, !decide (p.2 ∈ memG k n past p.1))]
def pastG (k : Kd) (n : Int) (l : List (Int × α)) : PastG α := l.foldl (pastStep k n) []
/-! ### lists that keep first items -/
def uniq : List α → List α
  | [] => []
  | x :: xs => x :: (uniq xs).filter fun y => y != x
theorem uniq_def (x : α) (xs : List α) : uniq (x :: xs) = x :: (uniq xs).filter fun y => y != x := rfl
theorem uniq_mem {x : α} : ∀ {xs : List α}, x ∈ uniq xs ↔ x ∈ xs
  | [] => Iff.rfl
  | y :: ys => by
    unfold uniq
    rw [List.mem_cons, List.mem_filter, uniq_mem (xs := ys), List.mem_cons]
    by_cases h : x = y <;> simp [h]
theorem uniq_nodup : ∀ (xs : List α), (uniq xs).Nodup
  | [] => List.nodup_nil
  | y :: ys => by
    unfold uniq
    rw [List.nodup_cons]
    exact ⟨fun h => by simp at h, (uniq_nodup ys).filter _⟩
/-- one by one, up to a bound -/
theorem uniq_fold (n : Int) : ∀ (xs found : List α), (found.length : Int) ≤ n → xs.foldl (fun f x => uniqStep f n x) found = found ++ ((uniq xs).filter fun y => !decide (y ∈ found)).take (n.toNat - found.length)
  | [], found, h => by simp [uniq]
  | x :: xs, found, h => by
    rw [List.foldl_cons]
    by_cases h1 : x ∈ found
    · rw [show uniqStep found n x = found from if_neg (by simp [h1]), uniq_fold n xs found h]
      congr 2
      rw [uniq_def]
      rw [List.filter_cons_of_neg (by simp [h1]), List.filter_filter]
      refine List.filter_congr fun y _ => ?_
      by_cases hy : y ∈ found
      · simp [hy]
      · have : y ≠ x := fun e => hy (e ▸ h1)
        simp [hy, this]
    · by_cases h2 : (found.length : Int) < n
      · rw [show uniqStep found n x = found ++ [x] from if_pos ⟨h1, h2⟩, uniq_fold n xs (found ++ [x]) (by rw [List.length_append]; simp only [List.length_cons, List.length_nil]; omega)]
        rw [uniq_def, List.filter_cons_of_pos (by simp [h1])]
        have e : n.toNat - found.length = (n.toNat - (found ++ [x]).length) + 1 := by
          rw [List.length_append]
          simp only [List.length_cons, List.length_nil]
          omega
        rw [e, List.take_succ_cons, List.filter_filter, List.append_assoc]
        congr 1
        show _ :: List.take _ _ = _
        congr 2
        refine List.filter_congr fun y _ => ?_
        by_cases hy : y = x <;> simp [hy, h1]
      · rw [show uniqStep found n x = found from if_neg (fun q => h2 q.2), uniq_fold n xs found h]
        have e : n.toNat - found.length = 0 := by omega
        rw [e, List.take_zero, List.take_zero]
theorem lastNames_eq (names : List α) (n : Int) (h : 0 ≤ n) : lastNames names n = (uniq names.reverse).take n.toNat := by
  unfold lastNames
  rw [uniq_fold n _ [] (by simpa using h)]
  simp
  congr 1
  exact List.filter_eq_self.mpr fun _ _ => rfl
theorem lastNames_mem {names : List α} {n : Int} {x : α} (h : 0 ≤ n) (m : x ∈ lastNames names n) : x ∈ names := by
  rw [lastNames_eq _ _ h] at m
  have := uniq_mem.mp (List.mem_of_mem_take m)
  simpa using this
/-! ### looking up -/
theorem lookup_isSome {x : α} : ∀ {st : MemG α}, (st.lookup x).isSome = true ↔ x ∈ st.map (·.1)
  | [] => by simp
  | p :: st => by
    rw [List.map_cons, List.mem_cons, List.lookup_cons]
    by_cases h : x = p.1
    · simp [h]
    · have : (x == p.1) = false := beq_eq_false_iff_ne.mpr h
      rw [this]
      simp only [h, false_or]
      exact lookup_isSome
theorem lookup_none {x : α} {st : MemG α} : st.lookup x = none ↔ x ∉ st.map (·.1) := by
  rw [← lookup_isSome]
  cases st.lookup x <;> simp
theorem lookup_app {x : α} : ∀ {st st' : MemG α}, (st ++ st').lookup x = (st.lookup x).or (st'.lookup x)
  | [], _ => by simp
  | p :: st, st' => by
    rw [List.cons_append, List.lookup_cons, List.lookup_cons]
    by_cases h : (x == p.1) = true
    · rw [h]; rfl
    · rw [Bool.eq_false_iff.mpr h]
      exact lookup_app
theorem lookup_dropG {x y : α} (h : y ≠ x) : ∀ {st : MemG α}, (dropG x st).lookup y = st.lookup y
  | [] => rfl
  | p :: st => by
    unfold dropG
    by_cases q : p.1 = x
    · rw [List.eraseP_cons_of_pos (by simp [q]), List.lookup_cons]
      have : (y == p.1) = false := beq_eq_false_iff_ne.mpr (by rw [q]; exact h)
      rw [this]
    · rw [List.eraseP_cons_of_neg (by simp [q]), List.lookup_cons, List.lookup_cons]
      cases (y == p.1) with
      | true => rfl
      | false => exact lookup_dropG h
theorem dropG_names (x : α) : ∀ (st : MemG α), (dropG x st).map (·.1) = (st.map (·.1)).erase x
  | [] => rfl
  | p :: st => by
    unfold dropG
    by_cases q : p.1 = x
    · rw [List.eraseP_cons_of_pos (by simp [q]), List.map_cons, q, List.erase_cons_head]
    · rw [List.eraseP_cons_of_neg (by simp [q]), List.map_cons, List.map_cons, List.erase_cons_tail (by simp [q])]
      exact congrArg (p.1 :: ·) (dropG_names x st)
theorem dropG_nodup {x : α} {st : MemG α} (h : (st.map (·.1)).Nodup) : ((dropG x st ++ [(x, (0 : Int))]).map (·.1)).Nodup := by
  rw [List.map_append, dropG_names]
  rw [List.nodup_append]
  refine ⟨h.erase x, by simp, fun a ha b hb => ?_⟩
  simp at hb
  rw [hb]
  intro e
  rw [e] at ha
  exact (h.mem_erase_iff.mp ha).1 rfl
theorem dropG_nodup' {x : α} {t : Int} {st : MemG α} (h : (st.map (·.1)).Nodup) : ((dropG x st ++ [(x, t)]).map (·.1)).Nodup := by
  have := dropG_nodup (x := x) h
  rw [List.map_append] at this ⊢
  exact this
theorem shortG_names (k : Kd) (n : Int) (st : MemG α) : (shortG k n st).map (·.1) = if k.cnt then (st.map (·.1)).drop (st.length - n.toNat) else st.map (·.1) := by
  unfold shortG
  split
  · rw [List.map_drop]
  · rfl
theorem shortG_nodup {k : Kd} {n : Int} {st : MemG α} (h : (st.map (·.1)).Nodup) : ((shortG k n st).map (·.1)).Nodup := by
  rw [shortG_names]
  split
  · exact h.sublist (List.drop_sublist _ _)
  · exact h
theorem recG_nodup {k : Kd} {n : Int} {st : MemG α} {t : Int} {x : α} (h : (st.map (·.1)).Nodup) : ((recG k n st t x).2.map (·.1)).Nodup := by
  unfold recG
  split
  · exact h
  · exact shortG_nodup (dropG_nodup' h)
/-! ### the latest tick of a name -/
def latest (ps : PastG α) (x : α) : Option Int := ps.foldl (fun o p => if p.2.1 = x then some p.1 else o) none
theorem latest_snoc (ps : PastG α) (p : Int × α × Bool) (x : α) : latest (ps ++ [p]) x = if p.2.1 = x then some p.1 else latest ps x := by
  unfold latest
  rw [List.foldl_append]
  rfl
theorem latest_nil (x : α) : latest ([] : PastG α) x = none := rfl
/-- no tick falls -/
def upP (ps : PastG α) : Prop := ps.Pairwise fun p q => p.1 ≤ q.1
theorem snoc_ind {β : Type} {P : List β → Prop} (h0 : P []) (h1 : ∀ xs x, P xs → P (xs ++ [x])) (xs : List β) : P xs := by
  have : ∀ ys : List β, P ys.reverse := fun ys => by
    induction ys with
    | nil => exact h0
    | cons y ys ih => rw [List.reverse_cons]; exact h1 _ _ ih
  have h := this xs.reverse
  rwa [List.reverse_reverse] at h
theorem latest_mem {x : α} {w : Int} (ps : PastG α) : latest ps x = some w → ∃ b, (w, x, b) ∈ ps := by
  refine snoc_ind (P := fun ps => latest ps x = some w → ∃ b, (w, x, b) ∈ ps) (fun h => by cases h) (fun ps p ih h => ?_) ps
  rw [latest_snoc] at h
  by_cases q : p.2.1 = x
  · rw [if_pos q] at h
    cases h
    refine ⟨p.2.2, ?_⟩
    rw [← q]
    simp
  · rw [if_neg q] at h
    obtain ⟨b, m⟩ := ih h
    exact ⟨b, List.mem_append_left _ m⟩
theorem latest_max {x : α} (ps : PastG α) : upP ps → ∀ p ∈ ps, p.2.1 = x → ∃ w, latest ps x = some w ∧ p.1 ≤ w := by
  refine snoc_ind (P := fun ps => upP ps → ∀ p ∈ ps, p.2.1 = x → ∃ w, latest ps x = some w ∧ p.1 ≤ w) (fun _ p h => by cases h) (fun ps q ih hu p hp hx => ?_) ps
  rw [latest_snoc]
  unfold upP at hu
  rw [List.pairwise_append] at hu
  by_cases e : q.2.1 = x
  · rw [if_pos e]
    refine ⟨_, rfl, ?_⟩
    rcases List.mem_append.mp hp with m | m
    · exact hu.2.2 p m q (by simp)
    · rw [List.mem_singleton.mp m]
      exact Int.le_refl _
  · rw [if_neg e]
    rcases List.mem_append.mp hp with m | m
    · exact ih hu.1 p m hx
    · rw [List.mem_singleton.mp m] at hx
      exact absurd hx e
/-! ### what the plain reading finds -/
theorem found_spec (k : Kd) (n t : Int) (ps : PastG α) : ∀ (found : List α), found.Nodup → (ps.foldl (foundStep k n t) found).Nodup ∧ ∀ x, x ∈ ps.foldl (foundStep k n t) found ↔ x ∈ found ∨ ∃ p ∈ ps, p.2.1 = x ∧ t - p.1 < n ∧ (p.2.2 = true ∨ k = .renew) := by
  induction ps with
  | nil => exact fun found h => ⟨h, fun x => by simp⟩
  | cons p ps ih =>
    intro found h
    rw [List.foldl_cons]
    by_cases q : t - p.1 < n ∧ p.2.1 ∉ found ∧ (p.2.2 = true ∨ k = .renew)
    · rw [show foundStep k n t found p = found ++ [p.2.1] from if_pos q]
      have hn : (found ++ [p.2.1]).Nodup := by
        rw [List.nodup_append]
        refine ⟨h, by simp, fun a ha b hb e => ?_⟩
        simp at hb
        rw [hb] at e
        exact q.2.1 (e ▸ ha)
      obtain ⟨i1, i2⟩ := ih _ hn
      refine ⟨i1, fun x => ?_⟩
      rw [i2 x, List.mem_append, List.mem_singleton]
      constructor
      · rintro ((m | m) | ⟨r, m, z⟩)
        · exact .inl m
        · exact .inr ⟨p, List.mem_cons_self, m.symm, q.1, q.2.2⟩
        · exact .inr ⟨r, List.mem_cons_of_mem _ m, z⟩
      · rintro (m | ⟨r, m, z⟩)
        · exact .inl (.inl m)
        · rcases List.mem_cons.mp m with rfl | m
          · exact .inl (.inr z.1.symm)
          · exact .inr ⟨r, m, z⟩
    · rw [show foundStep k n t found p = found from if_neg q]
      obtain ⟨i1, i2⟩ := ih _ h
      refine ⟨i1, fun x => ?_⟩
      rw [i2 x]
      constructor
      · rintro (m | ⟨r, m, z⟩)
        · exact .inl m
        · exact .inr ⟨r, List.mem_cons_of_mem _ m, z⟩
      · rintro (m | ⟨r, m, z⟩)
        · exact .inl m
        · rcases List.mem_cons.mp m with rfl | m
          · left
            by_cases hf : r.2.1 ∈ found
            · rw [← z.1]; exact hf
            · exact absurd ⟨z.2.1, hf, z.2.2⟩ q
          · exact .inr ⟨r, m, z⟩
theorem memG_time {k : Kd} (hk : k.cnt = false) {n t : Int} {ps : PastG α} : (memG k n ps t).Nodup ∧ ∀ x, x ∈ memG k n ps t ↔ ∃ p ∈ ps, p.2.1 = x ∧ t - p.1 < n ∧ (p.2.2 = true ∨ k = .renew) := by
  obtain ⟨h1, h2⟩ := found_spec k n t ps [] List.nodup_nil
  have e : memG k n ps t = ps.foldl (foundStep k n t) [] := by cases k <;> first | rfl | cases hk
  rw [e]
  exact ⟨h1, fun x => by rw [h2 x]; simp⟩
/-! ### a gate beside the plain reading -/
structure InvG (k : Kd) (n : Int) (ps : PastG α) (st : MemG α) : Prop where
  nd : (st.map (·.1)).Nodup
  la : k = .last → st.map (·.1) = memG .last n ps 0
  re : k = .recent → st.map (·.1) = (memG .recent n ps 0).reverse
  ho : k = .hold → ∀ x, st.lookup x = latest (ps.filter (·.2.2)) x
  rn : k = .renew → ∀ x, st.lookup x = latest ps x
theorem InvG.nil {k : Kd} {n : Int} : InvG k n ([] : PastG α) [] := ⟨List.nodup_nil, fun _ => by simp [memG, accNames], fun _ => by simp [memG, lastNames], fun _ _ => rfl, fun _ _ => rfl⟩
theorem upP.filter {ps : PastG α} (h : upP ps) (f : Int × α × Bool → Bool) : upP (ps.filter f) := List.Pairwise.sublist List.filter_sublist h
/-- what the gate remembers is what the reading finds -/
theorem InvG.rem {k : Kd} {n : Int} {ps : PastG α} {st : MemG α} (h : InvG k n ps st) (hu : upP ps) (t : Int) (x : α) : remG k n st t x = decide (x ∈ memG k n ps t) := by
  by_cases hc : k.cnt = true
  · have hs : remG k n st t x = (st.lookup x).isSome := by
      unfold remG
      cases st.lookup x with
      | none => rfl
      | some w => simp [hc]
    have hm : x ∈ st.map (·.1) ↔ x ∈ memG k n ps t := by
      cases k with
      | last => rw [h.la rfl]; rfl
      | recent => rw [h.re rfl, List.mem_reverse]; rfl
      | hold => cases hc
      | renew => cases hc
    rw [hs, Bool.eq_iff_iff, decide_eq_true_eq, lookup_isSome, hm]
  · have hc' : k.cnt = false := Bool.eq_false_iff.mpr hc
    have hm := (memG_time hc' (n := n) (t := t) (ps := ps)).2 x
    rw [Bool.eq_iff_iff, decide_eq_true_eq, hm]
    unfold remG
    cases k with
    | last => cases hc'
    | recent => cases hc'
    | hold =>
      rw [h.ho rfl x]
      constructor
      · intro q
        cases e : latest (ps.filter (·.2.2)) x with
        | none => rw [e] at q; cases q
        | some w =>
          rw [e] at q
          obtain ⟨b, m⟩ := latest_mem _ e
          rw [List.mem_filter] at m
          exact ⟨_, m.1, rfl, by simpa [Kd.cnt] using q, .inl m.2⟩
      · rintro ⟨p, m, e, lt, a⟩
        have ha : p.2.2 = true := a.elim id fun z => by cases z
        obtain ⟨w, hw, hle⟩ := latest_max _ (hu.filter (·.2.2)) p (List.mem_filter.mpr ⟨m, ha⟩) e
        rw [hw]
        simp [Kd.cnt]
        omega
    | renew =>
      rw [h.rn rfl x]
      constructor
      · intro q
        cases e : latest ps x with
        | none => rw [e] at q; cases q
        | some w =>
          rw [e] at q
          obtain ⟨b, m⟩ := latest_mem _ e
          exact ⟨_, m, rfl, by simpa [Kd.cnt] using q, .inr rfl⟩
      · rintro ⟨p, m, e, lt, _⟩
        obtain ⟨w, hw, hle⟩ := latest_max _ hu p m e
        rw [hw]
        simp [Kd.cnt]
        omega
theorem accNames_snoc (ps : PastG α) (t : Int) (x : α) (b : Bool) : accNames (ps ++ [(t, x, b)]) = accNames ps ++ (if b then [x] else []) := by
  unfold accNames
  rw [List.filter_append, List.map_append]
  cases b <;> rfl
theorem drop_last_snoc {β : Type} (xs : List β) (x : β) (n : Nat) (h : 1 ≤ n) : (xs.drop (xs.length - n) ++ [x]).drop ((xs.drop (xs.length - n) ++ [x]).length - n) = (xs ++ [x]).drop ((xs ++ [x]).length - n) := by
  have l1 : (xs.drop (xs.length - n) ++ [x]).length = min xs.length n + 1 := by
    rw [List.length_append, List.length_drop]
    simp only [List.length_cons, List.length_nil]
    omega
  have l2 : (xs ++ [x]).length = xs.length + 1 := by simp
  rw [l1, l2, List.drop_append_of_le_length (by rw [List.length_drop]; omega), List.drop_append_of_le_length (by omega), List.drop_drop]
  congr 2
  omega
theorem erase_take {U : List α} {x : α} (m : Nat) : (((U.take m).erase x).take (m - 1)) = (U.erase x).take (m - 1) := by
  induction U generalizing m with
  | nil => simp
  | cons y ys ih =>
    cases m with
    | zero => simp
    | succ m =>
      rw [List.take_succ_cons]
      by_cases h : y = x
      · subst h
        rw [List.erase_cons_head, List.erase_cons_head, Nat.add_sub_cancel, List.take_take, Nat.min_self]
      · rw [List.erase_cons_tail (by simpa using h), List.erase_cons_tail (by simpa using h)]
        cases m with
        | zero => rfl
        | succ m =>
          simp only [Nat.add_sub_cancel, List.take_succ_cons]
          have := ih (m + 1)
          simp only [Nat.add_sub_cancel] at this
          rw [this]
theorem uniq_cons (x : α) (xs : List α) : uniq (x :: xs) = x :: (uniq xs).erase x := by
  show x :: (uniq xs).filter (fun y => y != x) = _
  rw [List.Nodup.erase_eq_filter (uniq_nodup xs)]
theorem filter_snoc_true {ps : PastG α} {p : Int × α × Bool} (h : p.2.2 = true) : (ps ++ [p]).filter (·.2.2) = ps.filter (·.2.2) ++ [p] := by
  rw [List.filter_append, List.filter_cons_of_pos (p := fun x : Int × α × Bool => x.2.2) h, List.filter_nil]
theorem filter_snoc_false {ps : PastG α} {p : Int × α × Bool} (h : p.2.2 = false) : (ps ++ [p]).filter (·.2.2) = ps.filter (·.2.2) := by
  rw [List.filter_append, List.filter_cons_of_neg (by simp [h]), List.filter_nil, List.append_nil]
theorem lookup_snoc {st : MemG α} (h : (st.map (·.1)).Nodup) (x y : α) (t : Int) : (dropG x st ++ [(x, t)]).lookup y = if x = y then some t else st.lookup y := by
  rw [lookup_app]
  by_cases e : x = y
  · subst e
    rw [if_pos rfl]
    have : (dropG x st).lookup x = none := by
      rw [lookup_none, dropG_names]
      exact fun z => (h.mem_erase_iff.mp z).1 rfl
    rw [this]
    simp [List.lookup_cons]
  · rw [if_neg e, lookup_dropG (fun z => e z.symm)]
    have : ([(x, t)] : MemG α).lookup y = none := by
      rw [List.lookup_cons, beq_eq_false_iff_ne.mpr fun z => e z.symm]
      rfl
    rw [this]
    cases st.lookup y <;> rfl
theorem erase_reverse {U : List α} (h : U.Nodup) (x : α) : (U.reverse).erase x = (U.erase x).reverse := by
  rw [List.Nodup.erase_eq_filter h, List.Nodup.erase_eq_filter ((List.reverse_perm U).nodup_iff.mpr h), List.filter_reverse]
theorem InvG.step {k : Kd} {n : Int} {ps : PastG α} {st : MemG α} (hn : 1 ≤ n) (h : InvG k n ps st) (hu : upP ps) (t : Int) (x : α) :
    (recG k n st t x).1 = !decide (x ∈ memG k n ps t) ∧ InvG k n (ps ++ [(t, x, !decide (x ∈ memG k n ps t))]) (recG k n st t x).2 := by
  have hr := h.rem hu t x
  have h1 : (recG k n st t x).1 = !decide (x ∈ memG k n ps t) := by
    unfold recG
    by_cases q : (remG k n st t x && k.acc) = true
    · rw [if_pos q]
      rw [Bool.and_eq_true] at q
      rw [← hr, q.1]
      rfl
    · rw [if_neg q, hr]
  refine ⟨h1, recG_nodup h.nd, fun e => ?_, fun e => ?_, fun e y => ?_, fun e y => ?_⟩
  · subst e
    unfold recG
    by_cases q : x ∈ memG .last n ps t
    · rw [hr, decide_eq_true q, if_pos (by rfl)]
      show st.map (·.1) = _
      rw [h.la rfl]
      unfold memG
      rw [accNames_snoc]
      simp
    · rw [hr, decide_eq_false q, if_neg (by simp)]
      have hx : x ∉ st.map (·.1) := by rw [h.la rfl]; exact q
      show (shortG .last n (dropG x st ++ [(x, t)])).map (·.1) = _
      rw [shortG_names, if_pos (by rfl), List.length_append, List.map_append, dropG_names, List.erase_of_not_mem hx]
      have hl : (dropG x st).length = (st.map (·.1)).length := by
        rw [← List.length_map (f := (·.1)) (as := dropG x st), dropG_names, List.erase_of_not_mem hx]
      rw [hl, h.la rfl]
      unfold memG
      rw [accNames_snoc]
      have := drop_last_snoc (accNames ps) x n.toNat (by omega)
      rw [List.length_append] at this
      exact this
  · subst e
    unfold recG
    rw [if_neg (by simp [Kd.acc])]
    show (shortG .recent n (dropG x st ++ [(x, t)])).map (·.1) = _
    rw [shortG_names, if_pos (by rfl), List.map_append, dropG_names]
    have hn0 : (0 : Int) ≤ n := by omega
    have hst := h.re rfl
    have e2 : memG .recent n ps 0 = (uniq (ps.map (·.2.1)).reverse).take n.toNat := lastNames_eq _ _ hn0
    have e3 : memG .recent n (ps ++ [(t, x, !decide (x ∈ memG .recent n ps t))]) 0 = (uniq ((ps ++ [(t, x, !decide (x ∈ memG .recent n ps t))]).map (·.2.1)).reverse).take n.toNat := lastNames_eq _ _ hn0
    rw [e3, List.map_append, List.reverse_append]
    show _ = ((uniq (x :: (ps.map (·.2.1)).reverse)).take n.toNat).reverse
    rw [uniq_cons]
    generalize hU : uniq (ps.map (·.2.1)).reverse = U at e2
    have hnd : (U.take n.toNat).Nodup := by rw [← hU]; exact (uniq_nodup _).sublist (List.take_sublist _ _)
    have hl : (dropG x st ++ [(x, t)]).length = ((U.take n.toNat).erase x).length + 1 := by
      rw [List.length_append, ← List.length_map (f := (·.1)) (as := dropG x st), dropG_names, hst, e2, erase_reverse hnd, List.length_reverse]
      rfl
    rw [hl, hst, e2, erase_reverse hnd]
    have hm : n.toNat = (n.toNat - 1) + 1 := by omega
    have ht := erase_take (U := U) (x := x) n.toNat
    generalize (U.take n.toNat).erase x = V at ht ⊢
    show (V.reverse ++ [x]).drop (V.length + 1 - n.toNat) = _
    rw [hm, List.take_succ_cons, ← ht, List.reverse_cons]
    rw [show V.length + 1 - (n.toNat - 1 + 1) = V.length - (n.toNat - 1) by omega]
    rw [List.drop_append_of_le_length (by rw [List.length_reverse]; omega), List.drop_reverse]
    congr 2
    by_cases hv : V.length ≤ n.toNat - 1
    · rw [Nat.sub_eq_zero_of_le hv, Nat.sub_zero, List.take_of_length_le (Nat.le_refl _), List.take_of_length_le hv]
    · rw [Nat.sub_sub_self (by omega)]
  · subst e
    unfold recG
    by_cases q : x ∈ memG .hold n ps t
    · rw [hr, decide_eq_true q, if_pos (by rfl)]
      show st.lookup y = _
      rw [filter_snoc_false (by rfl), h.ho rfl]
    · rw [hr, decide_eq_false q, if_neg (by simp)]
      show (shortG .hold n (dropG x st ++ [(x, t)])).lookup y = _
      rw [filter_snoc_true (by rfl), latest_snoc]
      show (dropG x st ++ [(x, t)]).lookup y = _
      rw [lookup_snoc h.nd, h.ho rfl]
  · subst e
    unfold recG
    rw [if_neg (by simp [Kd.acc]), latest_snoc]
    show (dropG x st ++ [(x, t)]).lookup y = _
    rw [lookup_snoc h.nd, h.rn rfl]
/-- what the gate knows, up to the order -/
theorem InvG.known {k : Kd} {n : Int} {ps : PastG α} {st : MemG α} (h : InvG k n ps st) (hu : upP ps) (t : Int) : (knownG k n st t).Perm (memG k n ps t) := by
  have hf : ∀ x ∈ st.map (·.1), remG k n st t x = true ↔ x ∈ memG k n ps t := fun x _ => by rw [h.rem hu t x, decide_eq_true_eq]
  cases k with
  | last =>
    have e := h.la rfl
    have : knownG .last n st t = st.map (·.1) := List.filter_eq_self.mpr fun x m => (hf x m).mpr (by rw [e] at m; exact m)
    rw [this, e]
    exact .refl _
  | recent =>
    have e := h.re rfl
    have : knownG .recent n st t = st.map (·.1) := List.filter_eq_self.mpr fun x m => (hf x m).mpr (by rw [e, List.mem_reverse] at m; exact m)
    rw [this, e]
    exact List.reverse_perm _
  | hold =>
    refine (List.perm_ext_iff_of_nodup (h.nd.filter _) (memG_time rfl).1).mpr fun x => ?_
    show x ∈ List.filter _ _ ↔ _
    rw [List.mem_filter, h.rem hu t x, decide_eq_true_eq]
    refine ⟨fun z => z.2, fun z => ⟨?_, z⟩⟩
    obtain ⟨p, m, e1, _, a⟩ := ((memG_time rfl).2 x).mp z
    have ha : p.2.2 = true := a.elim id fun z => by cases z
    obtain ⟨w, hw, _⟩ := latest_max _ (hu.filter (·.2.2)) p (List.mem_filter.mpr ⟨m, ha⟩) e1
    rw [← lookup_isSome, h.ho rfl, hw]
    rfl
  | renew =>
    refine (List.perm_ext_iff_of_nodup (h.nd.filter _) (memG_time rfl).1).mpr fun x => ?_
    show x ∈ List.filter _ _ ↔ _
    rw [List.mem_filter, h.rem hu t x, decide_eq_true_eq]
    refine ⟨fun z => z.2, fun z => ⟨?_, z⟩⟩
    obtain ⟨p, m, e1, _, _⟩ := ((memG_time rfl).2 x).mp z
    obtain ⟨w, hw, _⟩ := latest_max _ hu p m e1
    rw [← lookup_isSome, h.rn rfl, hw]
    rfl
end
end DG

/-! ## PA -/
set_option Elab.async false
set_option linter.all false
set_option maxRecDepth 100000
set_option maxHeartbeats 4000000
namespace DG
open PySem PySem.Spec PyProof.Rows L2

/-! ### running -/
theorem step {α β : Type} {m : W α} {a : α} {k : α → W β} {r : W β} (h : m = pure a) (h2 : k a = r) : (m >>= k) = r := by rw [h, pure_bind, h2]
theorem run_of {α : Type} {m : W α} {a : α} {Q : α → Prop} {E : Exn → Prop} (h : m = pure a) (q : Q a) : m Q E := by rw [h]; exact q
theorem run_bind {α β : Type} {m : W α} {a : α} {k : α → W β} {Q : β → Prop} {E : Exn → Prop} (h : m = pure a) (q : k a Q E) : (m >>= k) Q E := by rw [h, pure_bind]; exact q
@[simp] theorem ite_pure {α : Type} (c : Prop) [Decidable c] (a b : α) : (if c then (pure a : W α) else pure b) = pure (if c then a else b) := by split <;> rfl
@[simp] theorem optW_some {α β : Type} (a : α) (k : α → W β) : optW (some a) k = k a := rfl
@[simp] theorem boolD_bl (b : Bool) : boolD (.bl b) = pure b := rfl
@[simp] theorem boolD_ite (c : Prop) [Decidable c] (a b : D) : boolD (if c then a else b) = if c then boolD a else boolD b := by split <;> rfl
@[simp] theorem ite_bl (c : Prop) [Decidable c] (a b : Bool) : (if c then D.bl a else D.bl b) = D.bl (if c then a else b) := by split <;> rfl
@[simp] theorem ite_int (c : Prop) [Decidable c] (a b : Int) : (if c then D.int a else D.int b) = D.int (if c then a else b) := by split <;> rfl
@[simp] theorem ite_lst (c : Prop) [Decidable c] (a b : List D) : (if c then D.lst a else D.lst b) = D.lst (if c then a else b) := by split <;> rfl
/-! ### types -/
theorem kit_int_int : kitB "int" "int" = some true := by decide +kernel
theorem kit_int_bool : kitB "int" "bool" = some false := by decide +kernel
theorem kit_int_str : kitB "int" "str" = some false := by decide +kernel
theorem kit_int_tuple : kitB "int" "tuple" = some false := by decide +kernel
theorem kit_int_list : kitB "int" "list" = some false := by decide +kernel
theorem kit_str_str : kitB "str" "str" = some true := by decide +kernel
theorem kit_str_int : kitB "str" "int" = some false := by decide +kernel
theorem kit_str_bool : kitB "str" "bool" = some false := by decide +kernel
theorem kit_str_tuple : kitB "str" "tuple" = some false := by decide +kernel
theorem kit_str_list : kitB "str" "list" = some false := by decide +kernel
theorem kit_tuple_tuple : kitB "tuple" "tuple" = some true := by decide +kernel
theorem kit_tuple_int : kitB "tuple" "int" = some false := by decide +kernel
theorem kit_tuple_bool : kitB "tuple" "bool" = some false := by decide +kernel
theorem kit_tuple_str : kitB "tuple" "str" = some false := by decide +kernel
theorem kit_tuple_list : kitB "tuple" "list" = some false := by decide +kernel
theorem kit_list_list : kitB "list" "list" = some true := by decide +kernel
theorem kit_list_tuple : kitB "list" "tuple" = some false := by decide +kernel
theorem kit_list_int : kitB "list" "int" = some false := by decide +kernel
theorem kit_list_bool : kitB "list" "bool" = some false := by decide +kernel
theorem kit_list_str : kitB "list" "str" = some false := by decide +kernel
theorem kit_bool_int : kitB "bool" "int" = some true := by decide +kernel
theorem kit_bool_bool : kitB "bool" "bool" = some true := by decide +kernel
theorem kit_bool_str : kitB "bool" "str" = some false := by decide +kernel
theorem kit_bool_tuple : kitB "bool" "tuple" = some false := by decide +kernel
theorem kit_bool_list : kitB "bool" "list" = some false := by decide +kernel
theorem kit_non_int : kitB "NoneType" "int" = some false := by decide +kernel
theorem kit_non_bool : kitB "NoneType" "bool" = some false := by decide +kernel
theorem kit_non_str : kitB "NoneType" "str" = some false := by decide +kernel
theorem kit_non_tuple : kitB "NoneType" "tuple" = some false := by decide +kernel
theorem kit_non_list : kitB "NoneType" "list" = some false := by decide +kernel
theorem isi_of {d : D} {t T : String} {b : Bool} (h1 : d.ty? = some t) (h : kitB t T = some b) : isiD d T = pure (.bl b) := by
  unfold isiD
  rw [h1]
  simp only [h]
@[simp] theorem isi_int_int (i : Int) : isiD (.int i) "int" = pure (.bl true) := isi_of rfl kit_int_int
@[simp] theorem isi_int_bool (i : Int) : isiD (.int i) "bool" = pure (.bl false) := isi_of rfl kit_int_bool
@[simp] theorem isi_int_str (i : Int) : isiD (.int i) "str" = pure (.bl false) := isi_of rfl kit_int_str
@[simp] theorem isi_int_tuple (i : Int) : isiD (.int i) "tuple" = pure (.bl false) := isi_of rfl kit_int_tuple
@[simp] theorem isi_int_list (i : Int) : isiD (.int i) "list" = pure (.bl false) := isi_of rfl kit_int_list
@[simp] theorem isi_str_int (i : Str) : isiD (.str i) "int" = pure (.bl false) := isi_of rfl kit_str_int
@[simp] theorem isi_str_bool (i : Str) : isiD (.str i) "bool" = pure (.bl false) := isi_of rfl kit_str_bool
@[simp] theorem isi_str_str (i : Str) : isiD (.str i) "str" = pure (.bl true) := isi_of rfl kit_str_str
@[simp] theorem isi_str_tuple (i : Str) : isiD (.str i) "tuple" = pure (.bl false) := isi_of rfl kit_str_tuple
@[simp] theorem isi_str_list (i : Str) : isiD (.str i) "list" = pure (.bl false) := isi_of rfl kit_str_list
@[simp] theorem isi_tup_int (i : List D) : isiD (.tup i) "int" = pure (.bl false) := isi_of rfl kit_tuple_int
@[simp] theorem isi_tup_bool (i : List D) : isiD (.tup i) "bool" = pure (.bl false) := isi_of rfl kit_tuple_bool
@[simp] theorem isi_tup_str (i : List D) : isiD (.tup i) "str" = pure (.bl false) := isi_of rfl kit_tuple_str
@[simp] theorem isi_tup_tuple (i : List D) : isiD (.tup i) "tuple" = pure (.bl true) := isi_of rfl kit_tuple_tuple
@[simp] theorem isi_tup_list (i : List D) : isiD (.tup i) "list" = pure (.bl false) := isi_of rfl kit_tuple_list
@[simp] theorem isi_lst_int (i : List D) : isiD (.lst i) "int" = pure (.bl false) := isi_of rfl kit_list_int
@[simp] theorem isi_lst_bool (i : List D) : isiD (.lst i) "bool" = pure (.bl false) := isi_of rfl kit_list_bool
@[simp] theorem isi_lst_str (i : List D) : isiD (.lst i) "str" = pure (.bl false) := isi_of rfl kit_list_str
@[simp] theorem isi_lst_tuple (i : List D) : isiD (.lst i) "tuple" = pure (.bl false) := isi_of rfl kit_list_tuple
@[simp] theorem isi_lst_list (i : List D) : isiD (.lst i) "list" = pure (.bl true) := isi_of rfl kit_list_list
@[simp] theorem isi_bl_int (i : Bool) : isiD (.bl i) "int" = pure (.bl true) := isi_of rfl kit_bool_int
@[simp] theorem isi_bl_bool (i : Bool) : isiD (.bl i) "bool" = pure (.bl true) := isi_of rfl kit_bool_bool
@[simp] theorem isi_bl_str (i : Bool) : isiD (.bl i) "str" = pure (.bl false) := isi_of rfl kit_bool_str
@[simp] theorem isi_bl_tuple (i : Bool) : isiD (.bl i) "tuple" = pure (.bl false) := isi_of rfl kit_bool_tuple
@[simp] theorem isi_bl_list (i : Bool) : isiD (.bl i) "list" = pure (.bl false) := isi_of rfl kit_bool_list
@[simp] theorem isi_non_int : isiD .non "int" = pure (.bl false) := isi_of rfl kit_non_int
@[simp] theorem isi_non_bool : isiD .non "bool" = pure (.bl false) := isi_of rfl kit_non_bool
@[simp] theorem isi_non_str : isiD .non "str" = pure (.bl false) := isi_of rfl kit_non_str
@[simp] theorem isi_non_tuple : isiD .non "tuple" = pure (.bl false) := isi_of rfl kit_non_tuple
@[simp] theorem isi_non_list : isiD .non "list" = pure (.bl false) := isi_of rfl kit_non_list
/-! ### equality -/
theorem eqv_str (a b : Str) : D.eqv (.str a) (.str b) = decide (a = b) := by
  unfold D.eqv D.py PyData.eqv
  by_cases h : a = b <;> simp [h]
theorem eqv_int (a b : Int) : D.eqv (.int a) (.int b) = decide (a = b) := by
  unfold D.eqv D.py PyData.eqv
  by_cases h : a = b <;> simp [h]
theorem eqv_bl (a b : Bool) : D.eqv (.bl a) (.bl b) = decide (a = b) := by
  unfold D.eqv D.py PyData.eqv
  cases a <;> cases b <;> simp
theorem flat_strL (ys : List Str) : (ys.map D.str).all D.flat = true := by
  rw [List.all_map]
  exact List.all_eq_true.mpr fun _ _ => rfl
theorem flat_intL (ys : List Int) : (ys.map D.int).all D.flat = true := by
  rw [List.all_map]
  exact List.all_eq_true.mpr fun _ _ => rfl
theorem flat_blL (ys : List Bool) : (ys.map D.bl).all D.flat = true := by
  rw [List.all_map]
  exact List.all_eq_true.mpr fun _ _ => rfl
theorem memL_str (x : Str) : ∀ ys : List Str, memL (.str x) (ys.map D.str) = decide (x ∈ ys)
  | [] => rfl
  | y :: ys => by
    show (D.eqv (.str y) (.str x) || memL (.str x) (ys.map D.str)) = _
    rw [memL_str x ys, eqv_str]
    by_cases h1 : y = x <;> by_cases h2 : x ∈ ys <;> simp [h1, h2, eq_comm]
    intro h3
    exact h1 h3.symm
theorem memL_int (x : Int) : ∀ ys : List Int, memL (.int x) (ys.map D.int) = decide (x ∈ ys)
  | [] => rfl
  | y :: ys => by
    show (D.eqv (.int y) (.int x) || memL (.int x) (ys.map D.int)) = _
    rw [memL_int x ys, eqv_int]
    by_cases h1 : y = x <;> by_cases h2 : x ∈ ys <;> simp [h1, h2, eq_comm]
    intro h3
    exact h1 h3.symm
@[simp] theorem in_strT (x : Str) (ys : List Str) : inD (.str x) (.tup (ys.map D.str)) = pure (.bl (decide (x ∈ ys))) := by
  show need _ _ = _
  rw [need_of ⟨rfl, flat_strL ys⟩, memL_str]
@[simp] theorem in_strL (x : Str) (ys : List Str) : inD (.str x) (.lst (ys.map D.str)) = pure (.bl (decide (x ∈ ys))) := by
  show need _ _ = _
  rw [need_of ⟨rfl, flat_strL ys⟩, memL_str]
@[simp] theorem notIn_strT (x : Str) (ys : List Str) : notInD (.str x) (.tup (ys.map D.str)) = pure (.bl (!decide (x ∈ ys))) := by
  show need _ _ = _
  rw [need_of ⟨rfl, flat_strL ys⟩, memL_str]
@[simp] theorem notIn_strL (x : Str) (ys : List Str) : notInD (.str x) (.lst (ys.map D.str)) = pure (.bl (!decide (x ∈ ys))) := by
  show need _ _ = _
  rw [need_of ⟨rfl, flat_strL ys⟩, memL_str]
@[simp] theorem in_intL (x : Int) (ys : List Int) : inD (.int x) (.lst (ys.map D.int)) = pure (.bl (decide (x ∈ ys))) := by
  show need _ _ = _
  rw [need_of ⟨rfl, flat_intL ys⟩, memL_int]
@[simp] theorem notIn_intL (x : Int) (ys : List Int) : notInD (.int x) (.lst (ys.map D.int)) = pure (.bl (!decide (x ∈ ys))) := by
  show need _ _ = _
  rw [need_of ⟨rfl, flat_intL ys⟩, memL_int]
@[simp] theorem in_intT (x : Int) (ys : List Int) : inD (.int x) (.tup (ys.map D.int)) = pure (.bl (decide (x ∈ ys))) := by
  show need _ _ = _
  rw [need_of ⟨rfl, flat_intL ys⟩, memL_int]
@[simp] theorem notIn_intT (x : Int) (ys : List Int) : notInD (.int x) (.tup (ys.map D.int)) = pure (.bl (!decide (x ∈ ys))) := by
  show need _ _ = _
  rw [need_of ⟨rfl, flat_intL ys⟩, memL_int]
@[simp] theorem in_T1 (x a : Str) : inD (.str x) (.tup [.str a]) = pure (.bl (decide (x ∈ [a]))) := in_strT x [a]
@[simp] theorem in_T2 (x a b : Str) : inD (.str x) (.tup [.str a, .str b]) = pure (.bl (decide (x ∈ [a, b]))) := in_strT x [a, b]
@[simp] theorem in_T4 (x a b c d : Str) : inD (.str x) (.tup [.str a, .str b, .str c, .str d]) = pure (.bl (decide (x ∈ [a, b, c, d]))) := in_strT x [a, b, c, d]
@[simp] theorem notIn_T2 (x a b : Str) : notInD (.str x) (.tup [.str a, .str b]) = pure (.bl (!decide (x ∈ [a, b]))) := notIn_strT x [a, b]
@[simp] theorem notIn_T4 (x a b c d : Str) : notInD (.str x) (.tup [.str a, .str b, .str c, .str d]) = pure (.bl (!decide (x ∈ [a, b, c, d]))) := notIn_strT x [a, b, c, d]
@[simp] theorem in_L1 (x a : Str) : inD (.str x) (.lst [.str a]) = pure (.bl (decide (x ∈ [a]))) := in_strL x [a]
@[simp] theorem in_L0 (x : Str) : inD (.str x) (.lst []) = pure (.bl false) := in_strL x []
@[simp] theorem notIn_L0 (x : Str) : notInD (.str x) (.lst []) = pure (.bl true) := notIn_strL x []
/-! ### shaped data -/
/-- may be laid, at most m deep -/
def D.shm (m : Nat) (d : D) : Prop := d.py.canLay0 = true ∧ d.py.depth ≤ m
theorem shm_shp {m : Nat} {d : D} (h : d.shm m) (hm : m ≤ 64) : d.shp = true := by
  unfold D.shp SeqAt.shaped
  rw [h.1, Bool.true_and]
  exact decide_eq_true (Nat.le_trans h.2 hm)
theorem shm_int (i : Int) : (D.int i).shm 0 := ⟨by simp [D.py, PyData.canLay0], by simp [D.py, PyData.depth]⟩
theorem shm_bl (i : Bool) : (D.bl i).shm 0 := ⟨by simp [D.py, PyData.canLay0], by simp [D.py, PyData.depth]⟩
theorem shm_non : D.non.shm 0 := ⟨by simp [D.py, PyData.canLay0], by simp [D.py, PyData.depth]⟩
theorem shm_str {x : Str} (h : PyData.strOk x = true) : (D.str x).shm 0 := ⟨by simp [D.py, PyData.canLay0, h], by simp [D.py, PyData.depth]⟩
theorem shm_mono {m k : Nat} {d : D} (h : d.shm m) (l : m ≤ k) : d.shm k := ⟨h.1, Nat.le_trans h.2 l⟩
theorem shm_all {m : Nat} : ∀ {ds : List D}, (∀ d ∈ ds, d.shm m) → PyData.canLayAll0 (pyL ds) = true ∧ PyData.depthAll (pyL ds) ≤ m
  | [], _ => ⟨by simp [pyL, PyData.canLayAll0], by simp [pyL, PyData.depthAll]⟩
  | d :: ds, h => by
    obtain ⟨h1, h2⟩ := h d List.mem_cons_self
    obtain ⟨h3, h4⟩ := shm_all fun e m => h e (List.mem_cons_of_mem _ m)
    refine ⟨?_, ?_⟩
    · simp [pyL, PyData.canLayAll0, h1, h3]
    · simp only [pyL, PyData.depthAll]
      omega
theorem shm_tup {m : Nat} {ds : List D} (h : ∀ d ∈ ds, d.shm m) : (D.tup ds).shm (m + 1) := by
  obtain ⟨h1, h2⟩ := shm_all h
  refine ⟨by simp [D.py, PyData.canLay0, h1], ?_⟩
  simp only [D.py, PyData.depth]
  omega
theorem shm_lst {m : Nat} {ds : List D} (h : ∀ d ∈ ds, d.shm m) : (D.lst ds).shm (m + 1) := by
  obtain ⟨h1, h2⟩ := shm_all h
  refine ⟨by simp [D.py, PyData.canLay0, h1], ?_⟩
  simp only [D.py, PyData.depth]
  omega
mutual
theorem eqv_self : ∀ d : PyData, d.canLay0 = true → PyData.eqv d d = true
  | .none, _ => by simp [PyData.eqv]
  | .bool _, _ => by simp [PyData.eqv]
  | .int _, _ => by simp [PyData.eqv]
  | .str _, _ => by simp [PyData.eqv]
  | .list xs, h => by
    simp only [PyData.canLay0] at h
    simp only [PyData.eqv]
    exact eqv_selfAll xs h
  | .tuple xs, h => by
    simp only [PyData.canLay0] at h
    simp only [PyData.eqv]
    exact eqv_selfAll xs h
  | .dict _, h => by simp [PyData.canLay0] at h
theorem eqv_selfAll : ∀ ds : List PyData, PyData.canLayAll0 ds = true → PyData.eqvAll ds ds = true
  | [], _ => by simp [PyData.eqvAll]
  | d :: ds, h => by
    simp only [PyData.canLayAll0, Bool.and_eq_true] at h
    simp only [PyData.eqvAll, Bool.and_eq_true]
    exact ⟨eqv_self d h.1, eqv_selfAll ds h.2⟩
end
theorem eq_self {m : Nat} {d : D} (h : d.shm m) (hm : m ≤ 64) : eqD d d = pure (.bl true) := by
  show need _ _ = _
  rw [need_of ⟨shm_shp h hm, shm_shp h hm⟩]
  unfold D.eqv
  rw [eqv_self _ h.1]
theorem ne_self {m : Nat} {d : D} (h : d.shm m) (hm : m ≤ 64) : neD d d = pure (.bl false) := by
  show need _ _ = _
  rw [need_of ⟨shm_shp h hm, shm_shp h hm⟩]
  unfold D.eqv
  rw [eqv_self _ h.1]
  rfl
theorem shm_intL (xs : List Int) : (D.lst (xs.map D.int)).shm 1 := shm_lst fun d hd => by
  obtain ⟨x, _, rfl⟩ := List.mem_map.mp hd
  exact shm_int x
theorem shm_blL (xs : List Bool) : (D.lst (xs.map D.bl)).shm 1 := shm_lst fun d hd => by
  obtain ⟨x, _, rfl⟩ := List.mem_map.mp hd
  exact shm_bl x
theorem shm_strL {xs : List Str} (h : ∀ x ∈ xs, PyData.strOk x = true) : (D.lst (xs.map D.str)).shm 1 := shm_lst fun d hd => by
  obtain ⟨x, m, rfl⟩ := List.mem_map.mp hd
  exact shm_str (h x m)
theorem eq_of_eqv {a b : D} {m k : Nat} {c : Bool} (ha : a.shm m) (hm : m ≤ 64) (hb : b.shm k) (hk : k ≤ 64) (h : D.eqv a b = c) : eqD a b = pure (.bl c) := by
  show need _ _ = _
  rw [need_of ⟨shm_shp ha hm, shm_shp hb hk⟩, h]
theorem ne_of_eqv {a b : D} {m k : Nat} {c : Bool} (ha : a.shm m) (hm : m ≤ 64) (hb : b.shm k) (hk : k ≤ 64) (h : D.eqv a b = c) : neD a b = pure (.bl (!c)) := by
  show need _ _ = _
  rw [need_of ⟨shm_shp ha hm, shm_shp hb hk⟩, h]
theorem eqvL_map {α : Type} [DecidableEq α] (e : α → D) : ∀ (as bs : List α), (∀ a ∈ as, ∀ b ∈ bs, D.eqv (e a) (e b) = decide (a = b)) → PyData.eqvAll (pyL (as.map e)) (pyL (bs.map e)) = decide (as = bs)
  | [], [], _ => by simp [pyL, PyData.eqvAll]
  | [], b :: bs, _ => by simp [pyL, PyData.eqvAll]
  | a :: as, [], _ => by simp [pyL, PyData.eqvAll]
  | a :: as, b :: bs, h => by
    have h1 := h a List.mem_cons_self b List.mem_cons_self
    have h2 := eqvL_map e as bs fun x m y k => h x (List.mem_cons_of_mem _ m) y (List.mem_cons_of_mem _ k)
    unfold D.eqv at h1
    simp only [List.map_cons, pyL, PyData.eqvAll, h1, h2, List.cons.injEq, Bool.decide_and]
theorem eqv_lst_map {α : Type} [DecidableEq α] (e : α → D) (as bs : List α) (h : ∀ a ∈ as, ∀ b ∈ bs, D.eqv (e a) (e b) = decide (a = b)) : D.eqv (.lst (as.map e)) (.lst (bs.map e)) = decide (as = bs) := by
  have := eqvL_map e as bs h
  simpa [D.eqv, D.py, PyData.eqv] using this
theorem eqv_tup_map {α : Type} [DecidableEq α] (e : α → D) (as bs : List α) (h : ∀ a ∈ as, ∀ b ∈ bs, D.eqv (e a) (e b) = decide (a = b)) : D.eqv (.tup (as.map e)) (.tup (bs.map e)) = decide (as = bs) := by
  have := eqvL_map e as bs h
  simpa [D.eqv, D.py, PyData.eqv] using this
theorem eq_str {a b : Str} (ha : PyData.strOk a = true) (hb : PyData.strOk b = true) : eqD (.str a) (.str b) = pure (.bl (decide (a = b))) := eq_of_eqv (shm_str ha) (by decide) (shm_str hb) (by decide) (eqv_str a b)
theorem ne_str {a b : Str} (ha : PyData.strOk a = true) (hb : PyData.strOk b = true) : neD (.str a) (.str b) = pure (.bl (!decide (a = b))) := ne_of_eqv (shm_str ha) (by decide) (shm_str hb) (by decide) (eqv_str a b)
@[simp] theorem eq_int (a b : Int) : eqD (.int a) (.int b) = pure (.bl (decide (a = b))) := eq_of_eqv (shm_int a) (by decide) (shm_int b) (by decide) (eqv_int a b)
@[simp] theorem ne_int (a b : Int) : neD (.int a) (.int b) = pure (.bl (!decide (a = b))) := ne_of_eqv (shm_int a) (by decide) (shm_int b) (by decide) (eqv_int a b)
@[simp] theorem eq_bl (a b : Bool) : eqD (.bl a) (.bl b) = pure (.bl (decide (a = b))) := eq_of_eqv (shm_bl a) (by decide) (shm_bl b) (by decide) (eqv_bl a b)
@[simp] theorem ne_bl (a b : Bool) : neD (.bl a) (.bl b) = pure (.bl (!decide (a = b))) := ne_of_eqv (shm_bl a) (by decide) (shm_bl b) (by decide) (eqv_bl a b)
@[simp] theorem eq_intL (as bs : List Int) : eqD (.lst (as.map D.int)) (.lst (bs.map D.int)) = pure (.bl (decide (as = bs))) := eq_of_eqv (shm_intL as) (by decide) (shm_intL bs) (by decide) (eqv_lst_map _ _ _ fun _ _ _ _ => eqv_int _ _)
@[simp] theorem ne_intL (as bs : List Int) : neD (.lst (as.map D.int)) (.lst (bs.map D.int)) = pure (.bl (!decide (as = bs))) := ne_of_eqv (shm_intL as) (by decide) (shm_intL bs) (by decide) (eqv_lst_map _ _ _ fun _ _ _ _ => eqv_int _ _)
@[simp] theorem eq_blL (as bs : List Bool) : eqD (.lst (as.map D.bl)) (.lst (bs.map D.bl)) = pure (.bl (decide (as = bs))) := eq_of_eqv (shm_blL as) (by decide) (shm_blL bs) (by decide) (eqv_lst_map _ _ _ fun _ _ _ _ => eqv_bl _ _)
@[simp] theorem ne_blL (as bs : List Bool) : neD (.lst (as.map D.bl)) (.lst (bs.map D.bl)) = pure (.bl (!decide (as = bs))) := ne_of_eqv (shm_blL as) (by decide) (shm_blL bs) (by decide) (eqv_lst_map _ _ _ fun _ _ _ _ => eqv_bl _ _)
theorem eq_strL {as bs : List Str} (ha : ∀ x ∈ as, PyData.strOk x = true) (hb : ∀ x ∈ bs, PyData.strOk x = true) : eqD (.lst (as.map D.str)) (.lst (bs.map D.str)) = pure (.bl (decide (as = bs))) := eq_of_eqv (shm_strL ha) (by decide) (shm_strL hb) (by decide) (eqv_lst_map _ _ _ fun _ _ _ _ => eqv_str _ _)
theorem ne_strL {as bs : List Str} (ha : ∀ x ∈ as, PyData.strOk x = true) (hb : ∀ x ∈ bs, PyData.strOk x = true) : neD (.lst (as.map D.str)) (.lst (bs.map D.str)) = pure (.bl (!decide (as = bs))) := ne_of_eqv (shm_strL ha) (by decide) (shm_strL hb) (by decide) (eqv_lst_map _ _ _ fun _ _ _ _ => eqv_str _ _)
@[simp] theorem isD_non (x : D) : isD x .non = pure (.bl x.isNon) := by cases x <;> rfl
@[simp] theorem isNotD_non (x : D) : isNotD x .non = pure (.bl (!x.isNon)) := by cases x <;> rfl
@[simp] theorem isD_bl (a b : Bool) : isD (.bl a) (.bl b) = pure (.bl (decide (a = b))) := rfl
@[simp] theorem isNotD_bl (a b : Bool) : isNotD (.bl a) (.bl b) = pure (.bl (!decide (a = b))) := rfl
@[simp] theorem isNon_non : D.isNon .non = true := rfl
@[simp] theorem isNon_int (i : Int) : D.isNon (.int i) = false := rfl
@[simp] theorem isNon_bl (i : Bool) : D.isNon (.bl i) = false := rfl
@[simp] theorem isNon_tup (i : List D) : D.isNon (.tup i) = false := rfl
/-! ### numbers -/
@[simp] theorem add_int (a b : Int) : addD (.int a) (.int b) = pure (.int (a + b)) := rfl
@[simp] theorem sub_int (a b : Int) : subD (.int a) (.int b) = pure (.int (a - b)) := rfl
@[simp] theorem neg_int (a : Int) : negD (.int a) = pure (.int (-a)) := rfl
@[simp] theorem lt_int (a b : Int) : ltD (.int a) (.int b) = pure (.bl (decide (a < b))) := rfl
@[simp] theorem le_int (a b : Int) : leD (.int a) (.int b) = pure (.bl (decide (a ≤ b))) := rfl
@[simp] theorem gt_int (a b : Int) : gtD (.int a) (.int b) = pure (.bl (decide (b < a))) := rfl
@[simp] theorem ge_int (a b : Int) : geD (.int a) (.int b) = pure (.bl (decide (b ≤ a))) := rfl
@[simp] theorem int_int (i : Int) : intD (.int i) = pure i := rfl
@[simp] theorem max_int (a b : Int) : maxD [.int a, .int b] = pure (.int (max a b)) := rfl
@[simp] theorem min_int (a b : Int) : minD [.int a, .int b] = pure (.int (min a b)) := rfl
@[simp] theorem toInt_bl (b : Bool) : toIntD [.bl b] = pure (.int (if b then 1 else 0)) := rfl
theorem mod_int {a b : Int} (h : 0 < b) : modD (.int a) (.int b) = pure (.int (a % b)) := need_of h
theorem mul_int {a b : Int} (h : CMul a b) : mulD (.int a) (.int b) = pure (.int (a * b)) := need_of h
theorem div_int {a b : Int} (h : CDiv a b) : divD (.int a) (.int b) = pure (.int (a / b)) := need_of h
/-! ### sequences -/
@[simp] theorem len_tup (ds : List D) : lenD [.tup ds] = pure (.int ds.length) := rfl
@[simp] theorem len_lst (ds : List D) : lenD [.lst ds] = pure (.int ds.length) := rfl
@[simp] theorem len_scr (ns : List Int) : lenD [.scr ns] = pure (.int ns.length) := rfl
theorem len_str {z : Str} (h : z.length ≤ line) : lenD [.str z] = pure (.int z.length) := need_of h
@[simp] theorem tup_tup (ds : List D) : tupD (.tup ds) = pure ds := rfl
@[simp] theorem lst_lst (ds : List D) : lstD (.lst ds) = pure ds := rfl
@[simp] theorem seq_tup (ds : List D) : seqD (.tup ds) = pure ds := rfl
@[simp] theorem seq_lst (ds : List D) : seqD (.lst ds) = pure ds := rfl
@[simp] theorem tuple_lst (ds : List D) : tupleD [.lst ds] = pure (.tup ds) := rfl
@[simp] theorem tuple_tup (ds : List D) : tupleD [.tup ds] = pure (.tup ds) := rfl
@[simp] theorem list_lst (ds : List D) : listD [.lst ds] = pure ds := rfl
@[simp] theorem list_tup (ds : List D) : listD [.tup ds] = pure ds := rfl
@[simp] theorem slc_tup (ds : List D) (lo hi : Option Int) : slcD (.tup ds) lo hi = pure (.tup (cutL ds lo hi)) := rfl
@[simp] theorem slc_lst (ds : List D) (lo hi : Option Int) : slcD (.lst ds) lo hi = pure (.lst (cutL ds lo hi)) := rfl
@[simp] theorem enum_lst (ds : List D) : enumD (.lst ds) = pure (enumL 0 ds) := rfl
@[simp] theorem enum_tup (ds : List D) : enumD (.tup ds) = pure (enumL 0 ds) := rfl
@[simp] theorem zip_lst (as bs : List D) : zipD [.lst as, .lst bs] = pure (pairL as bs) := rfl
@[simp] theorem zip_tup (as bs : List D) : zipD [.tup as, .tup bs] = pure (pairL as bs) := rfl
theorem add_tup {a b : List D} (h : a.length + b.length ≤ line) : addD (.tup a) (.tup b) = pure (.tup (a ++ b)) := need_of h
theorem add_lst {a b : List D} (h : a.length + b.length ≤ line) : addD (.lst a) (.lst b) = pure (.lst (a ++ b)) := need_of h
@[simp] theorem pat2T (a b : D) : patTup 2 (patCons pure (patOne pure)) (.tup [a, b]) = pure (a, b) := rfl
@[simp] theorem pat2P (a b : D) : patTup 2 (patCons pure (patOne pure)) (.pr [a, b]) = pure (a, b) := rfl
@[simp] theorem pat3T (a b c : D) : patTup 3 (patCons pure (patCons pure (patOne pure))) (.tup [a, b, c]) = pure (a, b, c) := rfl
@[simp] theorem pat3P (a b c : D) : patTup 3 (patCons pure (patCons pure (patOne pure))) (.pr [a, b, c]) = pure (a, b, c) := rfl
@[simp] theorem pat22 (a b c : D) : patTup 2 (patCons pure (patOne (patTup 2 (patCons pure (patOne pure))))) (.pr [a, .tup [b, c]]) = pure (a, b, c) := rfl
theorem idxT {ds : List D} {i : Nat} {d : D} (h : ds[i]? = some d) : idxD (.tup ds) (.int i) = pure d := by
  show (match atI ds i with | some d => pure d | none => stuck : W D) = _
  rw [atI_nat h]
theorem idxL {ds : List D} {i : Nat} {d : D} (h : ds[i]? = some d) : idxD (.lst ds) (.int i) = pure d := by
  show (match atI ds i with | some d => pure d | none => stuck : W D) = _
  rw [atI_nat h]
@[simp] theorem idxT0 (d : D) (ds : List D) : idxD (.tup (d :: ds)) (.int 0) = pure d := idxT (i := 0) rfl
@[simp] theorem idxT1 (d e : D) (ds : List D) : idxD (.tup (d :: e :: ds)) (.int 1) = pure e := idxT (i := 1) rfl
@[simp] theorem idxT2 (d e f : D) (ds : List D) : idxD (.tup (d :: e :: f :: ds)) (.int 2) = pure f := idxT (i := 2) rfl
@[simp] theorem idxL0 (d : D) (ds : List D) : idxD (.lst (d :: ds)) (.int 0) = pure d := idxL (i := 0) rfl
@[simp] theorem idxL1 (d e : D) (ds : List D) : idxD (.lst (d :: e :: ds)) (.int 1) = pure e := idxL (i := 1) rfl
theorem idxTm {α : Type} (e : α → D) {as : List α} {i : Nat} {a : α} (h : as[i]? = some a) : idxD (.tup (as.map e)) (.int i) = pure (e a) := idxT (by rw [List.getElem?_map, h]; rfl)
theorem idxLm {α : Type} (e : α → D) {as : List α} {i : Nat} {a : α} (h : as[i]? = some a) : idxD (.lst (as.map e)) (.int i) = pure (e a) := idxL (by rw [List.getElem?_map, h]; rfl)
theorem atI_getLast {ds : List D} {d : D} (h : ds.getLast? = some d) : atI ds (-1) = some d := by
  obtain ⟨ys, rfl⟩ := List.getLast?_eq_some_iff.mp h
  exact atI_last ys d
theorem idxT_last {ds : List D} {d : D} (h : ds.getLast? = some d) : idxD (.tup ds) (.int (-1)) = pure d := by
  show (match atI ds (-1) with | some d => pure d | none => stuck : W D) = _
  rw [atI_getLast h]
theorem idxL_last {ds : List D} {d : D} (h : ds.getLast? = some d) : idxD (.lst ds) (.int (-1)) = pure d := by
  show (match atI ds (-1) with | some d => pure d | none => stuck : W D) = _
  rw [atI_getLast h]
@[simp] theorem enumL_map {α : Type} (e : α → D) : ∀ (as : List α) (n : Nat), enumL n (as.map e) = (as.zipIdx n).map fun p => .pr [.int p.2, e p.1]
  | [], _ => rfl
  | a :: as, n => by
    show D.pr [.int n, e a] :: enumL (n + 1) (as.map e) = _
    rw [enumL_map e as (n + 1)]
    rfl
@[simp] theorem pairL_map {α β : Type} (e : α → D) (f : β → D) : ∀ (as : List α) (bs : List β), pairL (as.map e) (bs.map f) = (as.zip bs).map fun p => .pr [e p.1, f p.2]
  | [], _ => by simp [pairL]
  | _ :: _, [] => by simp [pairL]
  | a :: as, b :: bs => by
    show D.pr [e a, f b] :: pairL (as.map e) (bs.map f) = _
    rw [pairL_map e f as bs]
    rfl
theorem rng_int {lo hi : Int} (h : -1000000000 ≤ lo ∧ lo ≤ 1000000000 ∧ -1000000000 ≤ hi ∧ hi ≤ 1000000000) : rng2D [.int lo, .int hi] = pure (rngL lo (hi - lo).toNat) := need_of h
theorem rng1_int {j : Int} (h : -1000000000 ≤ j ∧ j ≤ 1000000000) : rng1D [.int j] = pure (rngL 0 j.toNat) := need_of h
theorem rng1_nat {j : Nat} (h : j ≤ 1000000000) : rng1D [.int j] = pure ((List.range j).map fun i : Nat => D.int i) := by
  rw [rng1_int ⟨by omega, by omega⟩]
  unfold rngL
  simp
theorem rng_get {lo : Int} {n i : Nat} {d : D} (h : (rngL lo n)[i]? = some d) : d = .int (lo + i) ∧ i < n := by
  unfold rngL at h
  rw [List.getElem?_map] at h
  cases q : (List.range n)[i]? with
  | none => rw [q] at h; cases h
  | some j =>
    rw [q] at h
    cases h
    have hi : i < n := by
      have := (List.getElem?_eq_some_iff.mp q).1
      rwa [List.length_range] at this
    rw [List.getElem?_range hi] at q
    cases q
    exact ⟨rfl, hi⟩
theorem rng_len (lo : Int) (n : Nat) : (rngL lo n).length = n := by
  unfold rngL
  rw [List.length_map, List.length_range]
/-! ### slices -/
theorem cutL_map {α β : Type} (f : α → β) (as : List α) (lo hi : Option Int) : cutL (as.map f) lo hi = (cutL as lo hi).map f := by
  unfold cutL
  rw [List.length_map, ← List.map_drop, ← List.map_take]
theorem cut_last {α : Type} (xs : List α) (n : Int) (h : 1 ≤ n) : cutL xs (some (0 - n)) none = xs.drop (xs.length - n.toNat) := by
  unfold cutL HT.sIx
  have e : (0 - n < 0) := by omega
  simp only [e, if_true]
  have e2 : (0 - n + (xs.length : Int)).toNat = xs.length - n.toNat := by omega
  rw [e2]
  exact List.take_of_length_le (by rw [List.length_drop]; omega)
theorem cut_to {α : Type} (xs : List α) (i : Nat) : cutL xs none (some (i : Int)) = xs.take i := by
  unfold cutL
  rw [HT.sIx_nat, HT.sIx_none, List.drop_zero, Nat.sub_zero]
  by_cases h : i ≤ xs.length
  · rw [Nat.min_eq_left h]
  · rw [Nat.min_eq_right (by omega), List.take_length, List.take_of_length_le (by omega)]
theorem cut_from {α : Type} (xs : List α) (i : Nat) : cutL xs (some (i : Int)) none = xs.drop i := by
  unfold cutL
  rw [HT.sIx_nat, HT.sIx_none]
  by_cases h : i ≤ xs.length
  · rw [Nat.min_eq_left h]
    exact List.take_of_length_le (by rw [List.length_drop]; exact Nat.le_refl _)
  · rw [Nat.min_eq_right (by omega), List.drop_of_length_le (by omega), List.drop_of_length_le (by omega), List.take_nil]
@[simp] theorem cut_from1 {α : Type} (xs : List α) : cutL xs (some 1) none = xs.drop 1 := cut_from xs 1
theorem cut_mid {α : Type} (xs : List α) (i j : Nat) : cutL xs (some (i : Int)) (some (j : Int)) = (xs.take j).drop i := by
  unfold cutL
  rw [HT.sIx_nat, HT.sIx_nat]
  by_cases h : i ≤ xs.length
  · rw [Nat.min_eq_left h]
    by_cases h2 : j ≤ xs.length
    · rw [Nat.min_eq_left h2, List.drop_take]
    · rw [Nat.min_eq_right (show xs.length ≤ j by omega), List.take_of_length_le (l := xs) (by omega), List.take_of_length_le (by rw [List.length_drop]; exact Nat.le_refl _)]
  · rw [Nat.min_eq_right (show xs.length ≤ i by omega), List.drop_of_length_le (Nat.le_refl _), List.take_nil, List.drop_of_length_le (by rw [List.length_take]; omega)]
theorem cut_but {α : Type} (xs : List α) : cutL xs none (some (-1)) = xs.dropLast := by
  unfold cutL HT.sIx
  simp
  rw [List.dropLast_eq_take]
  congr 1
  omega
/-! ### comprehensions -/
def compT {α : Type} : List α → (α → W (Option D)) → W (List D)
  | [], _ => pure []
  | a :: r, f => do let o ← calmW (f a); let xs ← compT r f; pure (o.toList ++ xs)
@[simp] theorem compW_map {α : Type} (e : α → D) (f : D → W (Option D)) : ∀ as : List α, compW (as.map e) f = compT as fun a => f (e a)
  | [] => rfl
  | a :: as => by
    show (calmW (f (e a)) >>= fun o => compW (as.map e) f >>= fun xs => pure (o.toList ++ xs)) = _
    rw [compW_map e f as]
    rfl
theorem compT_congr {α : Type} {f g : α → W (Option D)} : ∀ {as : List α}, (∀ a ∈ as, f a = g a) → compT as f = compT as g
  | [], _ => rfl
  | a :: as, h => by
    show (calmW (f a) >>= fun o => compT as f >>= fun xs => pure (o.toList ++ xs)) = _
    rw [h a List.mem_cons_self, compT_congr fun b m => h b (List.mem_cons_of_mem _ m)]
    rfl
@[simp] theorem compT_pure {α : Type} (g : α → Option D) : ∀ as : List α, compT as (fun a => pure (g a)) = pure (as.filterMap g)
  | [] => rfl
  | a :: as => by
    show (calmW (pure (g a)) >>= fun o => compT as _ >>= fun xs => pure (o.toList ++ xs)) = _
    rw [compT_pure g as, calm_pure]
    cases q : g a with
    | none => rw [List.filterMap_cons_none q]; rfl
    | some d => rw [List.filterMap_cons_some q]; rfl
@[simp] theorem filterMap_some' {α β : Type} (g : α → β) (as : List α) : as.filterMap (fun a => some (g a)) = as.map g := by
  show List.filterMap (some ∘ g) as = _
  rw [List.filterMap_eq_map]
theorem compT_map {α : Type} {f : α → W (Option D)} {g : α → D} {as : List α} (h : ∀ a ∈ as, f a = pure (some (g a))) : compT as f = pure (as.map g) := by
  rw [compT_congr h, compT_pure, filterMap_some']
theorem filterMap_ite {α β : Type} (p : α → Bool) (g : α → β) : ∀ as : List α, as.filterMap (fun a => if p a = true then some (g a) else none) = (as.filter p).map g
  | [] => rfl
  | a :: as => by
    cases q : p a with
    | true => rw [List.filterMap_cons_some (b := g a) (by rw [q]; rfl), List.filter_cons_of_pos q, List.map_cons, filterMap_ite p g as]
    | false => rw [List.filterMap_cons_none (by rw [q]; rfl), List.filter_cons_of_neg (by simp [q]), filterMap_ite p g as]
@[simp] theorem filterMap_iteP {α β : Type} (p : α → Prop) [DecidablePred p] (g : α → β) (as : List α) : as.filterMap (fun a => if p a then some (g a) else none) = (as.filter fun a => decide (p a)).map g := by
  rw [← filterMap_ite]
  congr 1
  funext a
  by_cases h : p a <;> simp [h]
theorem compT_filter {α : Type} {f : α → W (Option D)} {p : α → Bool} {g : α → D} {as : List α} (h : ∀ a ∈ as, f a = pure (if p a = true then some (g a) else none)) : compT as f = pure ((as.filter p).map g) := by
  rw [compT_congr h, compT_pure, filterMap_ite]
@[simp] theorem all_bl {α : Type} (p : α → Bool) (as : List α) : allD [.lst (as.map fun a => D.bl (p a))] = pure (.bl (as.all p)) := by
  show optW (blsOf _) _ = _
  rw [show (as.map fun a => D.bl (p a)) = (as.map p).map D.bl by rw [List.map_map]; rfl, blsOf_map]
  show pure (D.bl ((as.map p).all id)) = _
  rw [List.all_map]
  rfl
/-! ### loops -/
theorem for_map {S A : Type} {f : D → S → W S} {e : A → D} {T : Type} {g : T → A → T} {emb : T → S} (J : T → Nat → Prop) (hJ : ∀ t a n, J t (n + 1) → f (e a) (emb t) = pure (emb (g t a)) ∧ J (g t a) n) : ∀ (as : List A) (t : T), J t as.length → forW (as.map e) (emb t) f = pure (emb (as.foldl g t))
  | [], _, _ => rfl
  | a :: as, t, h => by
    show (f (e a) (emb t) >>= fun s' => forW (as.map e) s' f) = _
    obtain ⟨h1, h2⟩ := hJ t a as.length h
    rw [h1, pure_bind]
    exact for_map J hJ as (g t a) h2
/-- .. where the turn knows what was gone through -/
theorem for_pre {S A : Type} {f : D → S → W S} (e : A → D) (G : List A → S) (as : List A) (hJ : ∀ pre a post, as = pre ++ a :: post → f (e a) (G pre) = pure (G (pre ++ [a]))) : forW (as.map e) (G []) f = pure (G as) := by
  have main : ∀ (post pre : List A), as = pre ++ post → forW (post.map e) (G pre) f = pure (G as) := by
    intro post
    induction post with
    | nil => intro pre h; rw [List.append_nil] at h; rw [h]; rfl
    | cons a post ih =>
      intro pre h
      show (f (e a) (G pre) >>= fun s' => forW (post.map e) s' f) = _
      rw [hJ pre a post h, pure_bind]
      exact ih (pre ++ [a]) (by rw [h, List.append_assoc]; rfl)
  exact main as [] rfl
/-- a loop by an invariant -/
theorem for_inv {S : Type} {f : D → S → W S} {E : Exn → Prop} (I : Nat → S → Prop) : ∀ (ds : List D) (i : Nat) (s : S) (Q : S → Prop), (∀ j d s Q, ds[j]? = some d → I (i + j) s → (∀ s', I (i + j + 1) s' → Q s') → f d s Q E) → I i s → (∀ s, I (i + ds.length) s → Q s) → forW ds s f Q E
  | [], i, s, Q, _, h, q => q s h
  | d :: ds, i, s, Q, st, h, q => by
    show (f d s) (fun s' => forW ds s' f Q E) E
    refine st 0 d s _ rfl h fun s' h' => ?_
    refine for_inv I ds (i + 1) s' Q (fun j e s Q he hi hq => ?_) h' fun s hs => q s ?_
    · have a : i + 1 + j = i + (j + 1) := by omega
      rw [a] at hi hq
      exact st (j + 1) e s Q he hi hq
    · have a : i + 1 + ds.length = i + (d :: ds).length := by rw [List.length_cons]; omega
      rw [a] at hs
      exact hs
/-- a law's inner loop: every turn goes on -/
theorem forX_good {E : Exn → Prop} {S : Type} {f : D → S → W (Out S)} (I : S → Prop) : ∀ (ds : List D) (s : S) (Q : Out S → Prop), I s → (∀ d ∈ ds, ∀ s Q, I s → (∀ s', I s' → Q (.nx s')) → f d s Q E) → (∀ s, I s → Q (.nx s)) → forX ds s f Q E
  | [], s, Q, h, _, q => q s h
  | d :: ds, s, Q, h, st, q => by
    show (f d s) (fun x => out2W (fun s' => forX ds s' f) x Q E) E
    refine st d List.mem_cons_self s _ h fun s' h' => ?_
    exact forX_good I ds s' Q h' (fun e m => st e (List.mem_cons_of_mem _ m)) q
theorem forX_unit {E : Exn → Prop} {f : D → Unit → W (Out Unit)} {ds : List D} {Q : Out Unit → Prop} (st : ∀ d ∈ ds, ∀ Q, Q (.nx ()) → f d () Q E) (q : Q (.nx ())) : forX ds () f Q E :=
  forX_good (fun _ => True) ds () Q trivial (fun d m _ Q _ h => st d m Q (h () trivial)) fun _ _ => q
@[simp] theorem out2W_nx {S T : Type} (k : T → W (Out S)) (t : T) : out2W k (.nx t) = k t := rfl
@[simp] theorem out2W_rt {S T : Type} (k : T → W (Out S)) (d : D) : out2W k (.rt d) = pure (.rt d) := rfl
@[simp] theorem outW_nx {S : Type} (k : S → W D) (t : S) : outW k (.nx t) = k t := rfl
@[simp] theorem outW_rt {S : Type} (k : S → W D) (d : D) : outW k (.rt d) = pure d := rfl
/-- a new item of an own list -/
theorem app_ok {ds : List D} {d : D} (h : ds.length ≤ 100000) : need (List.length ds < line) (pure (ds ++ [d])) = pure (ds ++ [d]) := need_of (Nat.lt_of_le_of_lt h (by decide))
theorem need_lt {n : Nat} {β : Type} {m : W β} (h : n ≤ 100000) : need (n < line) m = m := need_of (Nat.lt_of_le_of_lt h (by decide))
theorem need_le {n : Nat} {β : Type} {m : W β} (h : n ≤ 100000) : need (n ≤ line) m = m := need_of (Nat.le_trans h (by decide))
theorem need_line {ds : List D} {β : Type} {m : W β} (h : ds.length ≤ 100000) : need (List.length ds ≤ line) m = m := need_of (Nat.le_trans h (by decide))
end DG

/-! ## PB -/
set_option Elab.async false
set_option linter.all false
set_option maxRecDepth 100000
set_option maxHeartbeats 4000000
namespace DG
open PySem PySem.Spec PyProof.Rows L2
/-! ### kinds, rules -/
def Kd.str : Kd → Str
  | .last => "last"
  | .recent => "recent"
  | .hold => "hold"
  | .renew => "renew"
def Kd.most : Kd → Int
  | .last => 60
  | .recent => 60
  | .hold => 1000000
  | .renew => 1000000
def ruleD (k : Kd) (n : Int) : D := .tup [.str k.str, .int n]
def msgD (p : Int × Str) : D := .tup [.int p.1, .str p.2]
def logD (l : List (Int × Str)) : D := .tup (l.map msgD)
@[simp] theorem str_inj (k j : Kd) : (k.str = j.str) ↔ k = j := by cases k <;> cases j <;> decide
@[simp] theorem str_ok (k : Kd) : PyData.strOk k.str = true := by cases k <;> decide +kernel
@[simp] theorem ok_last : PyData.strOk "last" = true := by decide +kernel
@[simp] theorem ok_recent : PyData.strOk "recent" = true := by decide +kernel
@[simp] theorem ok_hold : PyData.strOk "hold" = true := by decide +kernel
@[simp] theorem ok_renew : PyData.strOk "renew" = true := by decide +kernel
@[simp] theorem kd_cnt (k : Kd) : decide (k.str ∈ (["last", "recent"] : List Str)) = k.cnt := by cases k <;> decide
@[simp] theorem kd_acc (k : Kd) : decide (k.str ∈ (["last", "hold"] : List Str)) = k.acc := by cases k <;> decide
@[simp] theorem kd_rr (k : Kd) : decide (k.str ∈ (["recent", "renew"] : List Str)) = !k.acc := by cases k <;> decide
@[simp] theorem kd_hr (k : Kd) : decide (k.str ∈ (["hold", "renew"] : List Str)) = !k.cnt := by cases k <;> decide
@[simp] theorem kd_all (k : Kd) : decide (k.str ∈ (["last", "recent", "hold", "renew"] : List Str)) = true := by cases k <;> decide
@[simp] theorem eq_last (k : Kd) : eqD (.str k.str) (.str "last") = pure (.bl (decide (k = .last))) := by
  rw [eq_str (by simp) (by simp)]
  cases k <;> rfl
@[simp] theorem eq_recent (k : Kd) : eqD (.str k.str) (.str "recent") = pure (.bl (decide (k = .recent))) := by
  rw [eq_str (by simp) (by simp)]
  cases k <;> rfl
@[simp] theorem eq_hold (k : Kd) : eqD (.str k.str) (.str "hold") = pure (.bl (decide (k = .hold))) := by
  rw [eq_str (by simp) (by simp)]
  cases k <;> rfl
@[simp] theorem eq_renew (k : Kd) : eqD (.str k.str) (.str "renew") = pure (.bl (decide (k = .renew))) := by
  rw [eq_str (by simp) (by simp)]
  cases k <;> rfl
@[simp] theorem rule_0 (k : Kd) (n : Int) : idxD (ruleD k n) (.int 0) = pure (.str k.str) := rfl
@[simp] theorem rule_1 (k : Kd) (n : Int) : idxD (ruleD k n) (.int 1) = pure (.int n) := rfl
@[simp] theorem rule_pat (k : Kd) (n : Int) : patTup 2 (patCons pure (patOne pure)) (ruleD k n) = pure (.str k.str, .int n) := rfl
@[simp] theorem msg_0 (p : Int × Str) : idxD (msgD p) (.int 0) = pure (.int p.1) := rfl
@[simp] theorem msg_1 (p : Int × Str) : idxD (msgD p) (.int 1) = pure (.str p.2) := rfl
@[simp] theorem msg_pat (p : Int × Str) : patTup 2 (patCons pure (patOne pure)) (msgD p) = pure (.int p.1, .str p.2) := rfl
@[simp] theorem log_seq (l : List (Int × Str)) : seqD (logD l) = pure (l.map msgD) := rfl
@[simp] theorem log_len (l : List (Int × Str)) : lenD [logD l] = pure (.int l.length) := by
  show pure _ = _
  rw [List.length_map]
@[simp] theorem log_slc (l : List (Int × Str)) (lo hi : Option Int) : slcD (logD l) lo hi = pure (logD (cutL l lo hi)) := by
  show pure (D.tup (cutL (l.map msgD) lo hi)) = _
  rw [cutL_map]
  rfl
@[simp] theorem log_enum (l : List (Int × Str)) : enumD (logD l) = pure (enumL 0 (l.map msgD)) := rfl
@[simp] theorem log_isi (l : List (Int × Str)) : isiD (logD l) "tuple" = pure (.bl true) := isi_tup_tuple _
@[simp] theorem msg_isi (l : Int × Str) : isiD (msgD l) "tuple" = pure (.bl true) := isi_tup_tuple _
@[simp] theorem rule_isi (k : Kd) (n : Int) : isiD (ruleD k n) "tuple" = pure (.bl true) := isi_tup_tuple _
@[simp] theorem rule_len (k : Kd) (n : Int) : lenD [ruleD k n] = pure (.int 2) := rfl
@[simp] theorem msg_len (l : Int × Str) : lenD [msgD l] = pure (.int 2) := rfl
theorem log_idx {l : List (Int × Str)} {i : Nat} {p : Int × Str} (h : l[i]? = some p) : idxD (logD l) (.int i) = pure (msgD p) := idxTm msgD h
theorem log_last {l : List (Int × Str)} {p : Int × Str} (h : l.getLast? = some p) : idxD (logD l) (.int (-1)) = pure (msgD p) := idxT_last (by rw [List.getLast?_map, h]; rfl)
@[simp] theorem is_integer_eq (i lo hi : Int) : den_is_integer [.int i, .int lo, .int hi] = pure (.bl (decide (lo ≤ i ∧ i ≤ hi))) := by
  show dn_is_integer _ _ _ = _
  unfold dn_is_integer
  by_cases h1 : lo ≤ i <;> by_cases h2 : i ≤ hi <;> simp [h1, h2]
@[simp] theorem is_kind_eq (k : Kd) : den_is_kind [.str k.str] = pure (.bl true) := by
  show dn_is_kind _ = _
  unfold dn_is_kind
  have := kd_all k
  simp [c_COUNT_KINDS, c_TIME_KINDS, add_tup (show [D.str "last", D.str "recent"].length + [D.str "hold", D.str "renew"].length ≤ line by decide), -List.mem_cons, this]
@[simp] theorem largest_eq (k : Kd) : den_largest_size [.str k.str] = pure (.int k.most) := by
  show dn_largest_size _ = _
  unfold dn_largest_size
  have := kd_cnt k
  simp [c_COUNT_KINDS, c_MAX_COUNT, c_MAX_TICK, -List.mem_cons, this]
  cases k <;> rfl
@[simp] theorem is_rule_eq (k : Kd) (n : Int) : den_is_rule [ruleD k n] = pure (.bl (decide (1 ≤ n ∧ n ≤ k.most))) := by
  show dn_is_rule _ = _
  unfold dn_is_rule
  simp
def okRule (k : Kd) (n : Int) : Prop := 1 ≤ n ∧ n ≤ k.most
theorem need_rule_eq {k : Kd} {n : Int} (h : okRule k n) : den_need_rule [ruleD k n] = pure .non := by
  show dn_need_rule _ = _
  unfold dn_need_rule
  simp [is_rule_eq, show 1 ≤ n ∧ n ≤ k.most from h]
theorem need_kind_eq {k : Kd} : den_need_kind [.str k.str, c_KINDS] = pure .non := by
  show dn_need_kind _ _ = _
  unfold dn_need_kind
  have := kd_all k
  simp [c_KINDS, -List.mem_cons, this]
theorem need_kind_rr {k : Kd} (h : k.acc = false) : den_need_kind [.str k.str, .tup [.str "recent", .str "renew"]] = pure .non := by
  show dn_need_kind _ _ = _
  unfold dn_need_kind
  have := kd_rr k
  simp [-List.mem_cons, this, h]
theorem need_kind_time {k : Kd} (h : k.cnt = false) : den_need_kind [.str k.str, c_TIME_KINDS] = pure .non := by
  show dn_need_kind _ _ = _
  unfold dn_need_kind
  have := kd_hr k
  simp [c_TIME_KINDS, -List.mem_cons, this, h]
/-! ### names, logs -/
def lettersL : List Nat := ("abcdefghijklmnopqrstuvwxyz" : Str).cps.toList
def okName (x : Str) : Bool := decide (1 ≤ x.length) && decide (x.length ≤ 8) && x.cps.toList.all fun c => decide (c ∈ lettersL)
@[simp] theorem in_letters (c : Nat) : inD (sign c) c_LETTERS = pure (.bl (decide (c ∈ lettersL))) := by
  show need _ _ = _
  rw [need_of (by rfl)]
  rfl
theorem size_len (x : Str) : x.cps.toList.length = x.length := by
  rw [Array.length_toList]
  rfl
theorem is_identifier_eq {x : Str} (h : x.length ≤ line) : den_is_identifier [.str x] = pure (.bl (okName x)) := by
  show dn_is_identifier _ = _
  unfold dn_is_identifier
  have hl : (x.cps.toList.map sign).length ≤ line := by rw [List.length_map, size_len]; exact h
  have hs : seqD (.str x) = pure (x.cps.toList.map sign) := rfl
  have e1 : ((1 : Int) ≤ (x.length : Int)) ↔ 1 ≤ x.length := by omega
  have e8 : ((x.length : Int) ≤ 8) ↔ x.length ≤ 8 := by omega
  simp [-bind_pure_comp, -Array.toList_map, -List.length_map, len_str h, hs, need_of hl, okName, e1, e8]
def okMsg (p : Int × Str) : Bool := decide (0 ≤ p.1 ∧ p.1 ≤ 1000000) && okName p.2
theorem is_message_eq {p : Int × Str} (h : p.2.length ≤ line) : den_is_message [msgD p] = pure (.bl (okMsg p)) := by
  show dn_is_message _ = _
  unfold dn_is_message
  simp [c_MAX_TICK, is_identifier_eq h, okMsg]
/-- no tick falls -/
def upL (l : List (Int × Str)) : Bool := (l.zip (l.drop 1)).all fun z => decide (z.1.1 ≤ z.2.1)
def okLog (l : List (Int × Str)) : Bool := decide (l.length ≤ 60) && l.all okMsg && upL l
theorem is_log_eq {l : List (Int × Str)} (h : l.length ≤ 100000) (hn : ∀ p ∈ l, p.2.length ≤ line) : den_is_log [logD l] = pure (.bl (okLog l)) := by
  show dn_is_log _ = _
  unfold dn_is_log
  have hc : compT l (fun a => do let x ← den_is_message [msgD a]; pure (some x)) = pure (l.map fun p => D.bl (okMsg p)) := compT_map fun p m => by simp [is_message_eq (hn p m)]
  have hz : zipD [logD l, logD (l.drop 1)] = pure ((l.zip (l.drop 1)).map fun z => D.pr [msgD z.1, msgD z.2]) := by
    show pure (pairL _ _) = _
    rw [pairL_map]
  have h2 : (l.zip (l.drop 1)).length ≤ 100000 := by rw [List.length_zip]; omega
  have n1 : (l.map msgD).length ≤ 100000 := by rw [List.length_map]; exact h
  have n2 : ((l.zip (l.drop 1)).map fun z => D.pr [msgD z.1, msgD z.2]).length ≤ 100000 := by rw [List.length_map]; exact h2
  simp [-bind_pure_comp, -List.length_map, -List.length_zip, -List.drop_one, c_MAX_MESSAGES, hz, need_line n1, need_line n2, hc]
  unfold okLog upL
  by_cases h1 : l.length ≤ 60
  · have e : ¬ ((60 : Int) < (l.length : Int)) := by omega
    cases h2 : l.all okMsg <;> simp [h1, e, h2]
  · have e : (60 : Int) < (l.length : Int) := by omega
    simp [h1, e]
theorem okLog_len {l : List (Int × Str)} (h : okLog l = true) : l.length ≤ 60 := by
  unfold okLog at h
  simp only [Bool.and_eq_true, decide_eq_true_eq] at h
  exact h.1.1
theorem okLog_msg {l : List (Int × Str)} (h : okLog l = true) : ∀ p ∈ l, (0 ≤ p.1 ∧ p.1 ≤ 1000000) ∧ p.2.length ≤ 8 ∧ okName p.2 = true := fun p m => by
  unfold okLog at h
  simp only [Bool.and_eq_true, decide_eq_true_eq, List.all_eq_true] at h
  have h2 := h.1.2 p m
  unfold okMsg at h2
  simp only [Bool.and_eq_true, decide_eq_true_eq] at h2
  refine ⟨h2.1, ?_, h2.2⟩
  have h3 := h2.2
  unfold okName at h3
  simp only [Bool.and_eq_true, decide_eq_true_eq] at h3
  exact h3.1.2
theorem need_log_eq {l : List (Int × Str)} (h : okLog l = true) : den_need_log [logD l] = pure .non := by
  show dn_need_log _ = _
  unfold dn_need_log
  have h1 := okLog_len h
  simp [is_log_eq (by omega) fun p m => Nat.le_trans (okLog_msg h p m).2.1 (by decide), h]
theorem letters_ok : ∀ c ∈ lettersL, c < 0x110000 := by decide +kernel
theorem okName_ok {x : Str} (h : okName x = true) : PyData.strOk x = true := by
  unfold okName at h
  simp only [Bool.and_eq_true, List.all_eq_true, decide_eq_true_eq] at h
  unfold PyData.strOk
  rw [Array.all_eq_true']
  intro c hc
  exact decide_eq_true (letters_ok c (h.2 c (by simpa using hc)))
theorem okLog_str {l : List (Int × Str)} (h : okLog l = true) : ∀ p ∈ l, PyData.strOk p.2 = true := fun p m => okName_ok (okLog_msg h p m).2.2
theorem shm_msg {p : Int × Str} (h : PyData.strOk p.2 = true) : (msgD p).shm 1 := shm_tup fun e he => by
  rcases List.mem_cons.mp he with rfl | he
  · exact shm_int _
  · rw [List.mem_singleton.mp he]
    exact shm_str h
theorem shm_logS {l : List (Int × Str)} (h : ∀ p ∈ l, PyData.strOk p.2 = true) : (logD l).shm 2 := shm_tup fun d hd => by
  obtain ⟨p, m, rfl⟩ := List.mem_map.mp hd
  exact shm_msg (h p m)
theorem shm_log {l : List (Int × Str)} (h : okLog l = true) : (logD l).shm 2 := shm_logS (okLog_str h)
theorem eqv_msg (p q : Int × Str) : D.eqv (msgD p) (msgD q) = decide (p = q) := by
  have h1 := eqv_int p.1 q.1
  have h2 := eqv_str p.2 q.2
  unfold D.eqv at h1 h2
  simp only [D.eqv, msgD, D.py, pyL, PyData.eqv, PyData.eqvAll] at h1 h2 ⊢
  simp only [h1, h2, Bool.and_true]
  rw [Bool.eq_iff_iff]
  simp [Prod.ext_iff]
theorem ne_log_nil {l : List (Int × Str)} (h : okLog l = true) : neD (logD l) (.tup []) = pure (.bl (!l.isEmpty)) := by
  refine (ne_of_eqv (c := l.isEmpty) (shm_log h) (by decide) (shm_tup (m := 0) fun _ z => by cases z) (by decide) ?_).trans rfl
  cases l with
  | nil => simp [D.eqv, logD, D.py, pyL, PyData.eqv, PyData.eqvAll]
  | cons p l => simp [D.eqv, logD, D.py, pyL, PyData.eqv, PyData.eqvAll]
theorem eq_log_nil {l : List (Int × Str)} (h : okLog l = true) : eqD (logD l) (.tup []) = pure (.bl l.isEmpty) := by
  refine eq_of_eqv (c := l.isEmpty) (shm_log h) (by decide) (shm_tup (m := 0) fun _ z => by cases z) (by decide) ?_
  cases l with
  | nil => simp [D.eqv, logD, D.py, pyL, PyData.eqv, PyData.eqvAll]
  | cons p l => simp [D.eqv, logD, D.py, pyL, PyData.eqv, PyData.eqvAll]
end DG

/-! ## PC -/
set_option Elab.async false
set_option linter.all false
set_option maxRecDepth 100000
set_option maxHeartbeats 4000000
namespace DG
open PySem PySem.Spec PyProof.Rows L2
/-! ### gates -/
/-- a gate's memory: names with their ticks, the oldest first -/
abbrev Mem := MemG Str
def memD (st : Mem) : D := .tup [.tup ((st.map (·.1)).map D.str), .tup ((st.map (·.2)).map D.int)]
theorem lookup_idx {x : Str} : ∀ {st : Mem} {w : Int}, st.lookup x = some w → (st.map (·.2))[(st.map (·.1)).idxOf x]? = some w
  | p :: st, w, h => by
    rw [List.lookup_cons] at h
    rw [List.map_cons, List.map_cons]
    by_cases q : x = p.1
    · have e : (x == p.1) = true := beq_iff_eq.mpr q
      rw [e] at h
      have h' : some p.2 = some w := h
      rw [q, List.idxOf_cons_self, ← h']
      rfl
    · have e : (x == p.1) = false := beq_eq_false_iff_ne.mpr q
      rw [e] at h
      have e2 : (p.1 == x) = false := beq_eq_false_iff_ne.mpr fun z => q z.symm
      rw [List.idxOf_cons, e2]
      exact lookup_idx h
  | [], w, h => by cases h
theorem idxOf_strs (xs : List Str) (x : Str) (h : x ∈ xs) : idxOfD (xs.map D.str) (.str x) = pure (.int (xs.idxOf x : Nat)) := by
  show optW (strsOf _) _ = _
  rw [strsOf_map]
  show (if x ∈ xs then _ else _) = _
  rw [if_pos h]
@[simp] theorem mem_pat (st : Mem) : patTup 2 (patCons pure (patOne pure)) (memD st) = pure (.tup ((st.map (·.1)).map D.str), .tup ((st.map (·.2)).map D.int)) := rfl
@[simp] theorem mem_0 (st : Mem) : idxD (memD st) (.int 0) = pure (.tup ((st.map (·.1)).map D.str)) := rfl
@[simp] theorem mem_1 (st : Mem) : idxD (memD st) (.int 1) = pure (.tup ((st.map (·.2)).map D.int)) := rfl
theorem mem_empty : c_EMPTY = memD [] := rfl
theorem remembers_eq (k : Kd) (n : Int) (st : Mem) (t : Int) (x : Str) : den_remembers [ruleD k n, memD st, .int t, .str x] = pure (.bl (remG k n st t x)) := by
  show dn_remembers _ _ _ _ = _
  unfold dn_remembers
  have hk := kd_cnt k
  have hm := lookup_isSome (st := st) (x := x)
  unfold remG
  cases hw : st.lookup x with
  | none =>
    have h : x ∉ st.map (·.1) := fun z => by rw [hw] at hm; exact absurd (hm.mpr z) (by decide)
    simp [-bind_pure_comp, -List.map_map, -List.mem_map, h]
  | some w =>
    have h : x ∈ st.map (·.1) := hm.mp (by rw [hw]; rfl)
    have hi := idxTm D.int (lookup_idx hw)
    by_cases hc : k.cnt = true <;> simp [-bind_pure_comp, -List.map_map, -List.mem_map, -List.mem_cons, h, hk, hc, idxOf_strs _ _ h, hi, c_COUNT_KINDS]
theorem shortened_eq (k : Kd) (n : Int) (st : Mem) (h : 1 ≤ n) : den_shortened [ruleD k n, memD st] = pure (memD (shortG k n st)) := by
  show dn_shortened _ _ = _
  unfold dn_shortened
  have hk := kd_cnt k
  unfold shortG
  have hl := fun (xs : List D) => cut_last xs n h
  simp only [Int.zero_sub] at hl
  by_cases hc : k.cnt = true
  · simp [-bind_pure_comp, -List.map_map, -List.mem_map, -List.mem_cons, hk, hc, hl, c_COUNT_KINDS, memD, List.map_drop]
  · simp [-bind_pure_comp, -List.map_map, -List.mem_map, -List.mem_cons, hk, hc, c_COUNT_KINDS]
theorem dropM_names {x : Str} : ∀ {st : Mem}, x ∈ st.map (·.1) → (st.map (·.1)).take ((st.map (·.1)).idxOf x) ++ (st.map (·.1)).drop ((st.map (·.1)).idxOf x + 1) = (dropG x st).map (·.1) ∧ (st.map (·.2)).take ((st.map (·.1)).idxOf x) ++ (st.map (·.2)).drop ((st.map (·.1)).idxOf x + 1) = (dropG x st).map (·.2)
  | p :: st, h => by
    by_cases q : p.1 = x
    · have e : (dropG x (p :: st)) = st := by
        unfold dropG
        rw [List.eraseP_cons_of_pos (by simp [q])]
      rw [e, List.map_cons, List.map_cons, q, List.idxOf_cons_self]
      exact ⟨by simp, by simp⟩
    · have e : (dropG x (p :: st)) = p :: dropG x st := by
        unfold dropG
        rw [List.eraseP_cons_of_neg (by simp [q])]
      have h' : x ∈ st.map (·.1) := (List.mem_cons.mp h).resolve_left fun z => q z.symm
      have e2 : (p.1 == x) = false := beq_eq_false_iff_ne.mpr q
      have ih := dropM_names h'
      rw [e, List.map_cons, List.map_cons, List.idxOf_cons, e2]
      simp only [cond_false, List.take_succ_cons, List.drop_succ_cons, List.map_cons, List.cons_append]
      exact ⟨by rw [ih.1], by rw [ih.2]⟩
theorem dropM_not {x : Str} : ∀ {st : Mem}, x ∉ st.map (·.1) → dropG x st = st
  | [], _ => rfl
  | p :: st, h => by
    have q : p.1 ≠ x := fun z => h (by rw [List.map_cons, z]; exact List.mem_cons_self)
    have h' : x ∉ st.map (·.1) := fun z => h (List.mem_cons_of_mem _ z)
    unfold dropG
    rw [List.eraseP_cons_of_neg (by simp [q])]
    exact congrArg (p :: ·) (dropM_not h')
theorem dropM_len (x : Str) (st : Mem) : (dropG x st).length ≤ st.length := by
  unfold dropG
  exact List.length_eraseP_le
theorem memD_snoc (st : Mem) (x : Str) (t : Int) : D.tup [.tup ((st.map (·.1)).map D.str ++ [.str x]), .tup ((st.map (·.2)).map D.int ++ [.int t])] = memD (st ++ [(x, t)]) := by
  unfold memD
  simp only [List.map_append, List.map_cons, List.map_nil]
theorem received_eq (k : Kd) (n : Int) (st : Mem) (t : Int) (x : Str) (h : 1 ≤ n) (hs : st.length ≤ 1000) : den_received [ruleD k n, memD st, .int t, .str x] = pure (.tup [.bl (recG k n st t x).1, memD (recG k n st t x).2]) := by
  have hk := kd_acc k
  have hl : (dropG x st).length + 1 ≤ line := Nat.le_trans (Nat.add_le_add_right (Nat.le_trans (dropM_len x st) hs) 1) (by decide)
  have a1 : addD (.tup (((dropG x st).map (·.1)).map D.str)) (.tup [.str x]) = pure (.tup (((dropG x st).map (·.1)).map D.str ++ [.str x])) := add_tup (by simp only [List.length_map, List.length_cons, List.length_nil]; exact hl)
  have a2 : addD (.tup (((dropG x st).map (·.2)).map D.int)) (.tup [.int t]) = pure (.tup (((dropG x st).map (·.2)).map D.int ++ [.int t])) := add_tup (by simp only [List.length_map, List.length_cons, List.length_nil]; exact hl)
  show dn_received _ _ _ _ = _
  unfold dn_received recG
  by_cases hg : (remG k n st t x && k.acc) = true
  · rw [if_pos hg]
    rw [Bool.and_eq_true] at hg
    simp [-bind_pure_comp, -List.mem_cons, remembers_eq, hk, hg.1, hg.2]
  · rw [if_neg hg]
    have hif : (if (!!remG k n st t x) = true then k.acc else false) = false := by
      cases hr : remG k n st t x with
      | false => rfl
      | true =>
        rw [hr, Bool.true_and] at hg
        simpa using hg
    by_cases hx : x ∈ st.map (·.1)
    · obtain ⟨e1, e2⟩ := dropM_names hx
      have e : (((st.map (·.1)).idxOf x : Nat) : Int) + 1 = (((st.map (·.1)).idxOf x + 1 : Nat) : Int) := by omega
      have c1 : addD (.tup (((st.map (·.1)).map D.str).take ((st.map (·.1)).idxOf x))) (.tup (((st.map (·.1)).map D.str).drop ((st.map (·.1)).idxOf x + 1))) = pure (.tup (((dropG x st).map (·.1)).map D.str)) := by
        rw [← List.map_take, ← List.map_drop, add_tup, ← List.map_append, e1]
        rw [← List.length_append, ← List.map_append, e1, List.length_map, List.length_map]
        omega
      have c2 : addD (.tup (((st.map (·.2)).map D.int).take ((st.map (·.1)).idxOf x))) (.tup (((st.map (·.2)).map D.int).drop ((st.map (·.1)).idxOf x + 1))) = pure (.tup (((dropG x st).map (·.2)).map D.int)) := by
        rw [← List.map_take, ← List.map_drop, add_tup, ← List.map_append, e2]
        rw [← List.length_append, ← List.map_append, e2, List.length_map, List.length_map]
        omega
      simp only [remembers_eq, pure_bind, boolD_bl, rule_0, in_T2, hk, ite_pure, hif, Bool.false_eq_true, if_false, mem_pat, in_strT, decide_eq_true hx, if_true, tup_tup, idxOf_strs _ _ hx, int_int, add_int, slc_tup, e, cut_to, cut_from, c1, c2, a1, a2, memD_snoc, shortened_eq k n _ h]
    · rw [dropM_not hx] at a1 a2 ⊢
      simp only [remembers_eq, pure_bind, boolD_bl, rule_0, in_T2, hk, ite_pure, hif, Bool.false_eq_true, if_false, mem_pat, in_strT, decide_eq_false hx, a1, a2, memD_snoc, shortened_eq k n _ h]
/-! ### sorted texts -/
def leT (a b : Str) : Prop := a.cps.toList ≤ b.cps.toList
instance (a b : Str) : Decidable (leT a b) := inferInstanceAs (Decidable (a.cps.toList ≤ b.cps.toList))
theorem leT_trans {a b c : Str} (h : leT a b) (k : leT b c) : leT a c := List.le_trans h k
theorem leT_total (a b : Str) : leT a b ∨ leT b a := List.le_total _ _
theorem leT_antisymm {a b : Str} (h : leT a b) (k : leT b a) : a = b := by
  have e : a.cps.toList = b.cps.toList := List.le_antisymm h k
  obtain ⟨x⟩ := a
  obtain ⟨y⟩ := b
  have e' : x = y := Array.toList_inj.mp e
  rw [e']
theorem not_lt {a b : Str} : ltCps b.cps.toList a.cps.toList = false ↔ leT a b := by
  rw [ltCps_eq]
  unfold leT
  constructor
  · intro h z
    exact absurd z (of_decide_eq_false h)
  · intro h
    exact decide_eq_false h
theorem rising_pair : ∀ (ys : List Str) (p : Str), risingS p ys = true → (∀ y ∈ ys, leT p y) ∧ ys.Pairwise leT
  | [], _, _ => ⟨fun _ h => (by cases h), .nil⟩
  | y :: ys, p, h => by
    unfold risingS at h
    rw [Bool.and_eq_true, Bool.not_eq_true'] at h
    obtain ⟨h1, h2⟩ := rising_pair ys y h.2
    have h0 : leT p y := not_lt.mp h.1
    refine ⟨fun z m => ?_, .cons h1 h2⟩
    rcases List.mem_cons.mp m with rfl | m
    · exact h0
    · exact leT_trans h0 (h1 z m)
theorem sortedS_pair {ys : List Str} (h : sortedS ys = true) : ys.Pairwise leT := by
  cases ys with
  | nil => exact .nil
  | cons y ys =>
    obtain ⟨h1, h2⟩ := rising_pair ys y h
    exact .cons h1 h2
theorem pair_sortedS {ys : List Str} (h : ys.Pairwise leT) : sortedS ys = true := sortedS_of_pairwise ys (h.imp fun z => not_lt.mpr z)
def sortM (xs : List Str) : List Str := xs.mergeSort fun a b => decide (leT a b)
theorem sortM_perm (xs : List Str) : (sortM xs).Perm xs := List.mergeSort_perm _ _
theorem sortM_pair (xs : List Str) : (sortM xs).Pairwise leT := by
  have h := List.pairwise_mergeSort (le := fun a b => decide (leT a b)) (fun a b c h k => decide_eq_true (leT_trans (of_decide_eq_true h) (of_decide_eq_true k))) (fun a b => by
    rcases leT_total a b with h | h
    · simp [h]
    · simp [h]) xs
  exact h.imp fun h => of_decide_eq_true h
theorem sortM_of {xs ys : List Str} (p : ys.Perm xs) (s : ys.Pairwise leT) : ys = sortM xs := List.Perm.eq_of_pairwise (fun _ _ _ _ h k => leT_antisymm h k) s (sortM_pair xs) (p.trans (sortM_perm xs).symm)
theorem sortM_eq {xs ys : List Str} (p : xs.Perm ys) : sortM xs = sortM ys := sortM_of ((sortM_perm xs).trans p) (sortM_pair xs)
theorem ints_strs (x : Str) (xs : List Str) : intsOf ((x :: xs).map D.str) = none := rfl
theorem sorted_strs (xs : List Str) (h : xs.length < 64) : sortedD [.lst (xs.map D.str)] = pure ((sortM xs).map D.str) := by
  cases xs with
  | nil =>
    have e0 : sortM [] = [] := by simp [sortM]
    rw [e0]
    funext P E
    refine propext ⟨fun z => ?_, fun z ns' hn => ?_⟩
    · exact z [] ⟨.refl _, .nil⟩
    · have e := hn.1.eq_nil
      subst e
      exact z
  | cons x xs =>
    unfold sortedD
    simp only [ints_strs, strsOf_map]
    rw [need_of h]
    funext P E
    refine propext ⟨fun z => ?_, fun z ys hy => ?_⟩
    · exact z (sortM (x :: xs)) ⟨sortM_perm _, pair_sortedS (sortM_pair _)⟩
    · have e := sortM_of hy.1 (sortedS_pair hy.2)
      subst e
      exact z
@[simp] theorem sortM_len (xs : List Str) : (sortM xs).length = xs.length := (sortM_perm xs).length_eq
/-! ### what a gate knows -/
theorem names_known_eq (k : Kd) (n : Int) (st : Mem) (t : Int) (hs : st.length < 64) : den_names_known [ruleD k n, memD st, .int t] = pure ((sortM (knownG k n st t)).map D.str) := by
  show dn_names_known _ _ _ = _
  unfold dn_names_known
  have hl : ((st.map (·.1)).map D.str).length ≤ 100000 := by simp; omega
  have hc : compT (st.map (·.1)) (fun a => do let x ← den_remembers [ruleD k n, memD st, .int t, .str a]; let c ← boolD x; if c = true then pure (some (.str a)) else pure none) = pure ((knownG k n st t).map D.str) := compT_filter (p := fun x => remG k n st t x) fun x _ => by
    simp [remembers_eq]
  simp only [pure_bind, mem_0, seq_tup, need_line hl, compW_map, bind_assoc, ite_pure] at hc ⊢
  rw [hc]
  simp only [pure_bind]
  refine sorted_strs _ (Nat.lt_of_le_of_lt (List.length_filter_le _ _) ?_)
  rw [List.length_map]
  exact hs
end DG

/-! ## PD -/
set_option Elab.async false
set_option linter.all false
set_option maxRecDepth 100000
set_option maxHeartbeats 4000000
namespace DG
open PySem PySem.Spec PyProof.Rows L2
/-! ### a run over a log -/
abbrev Log := List (Int × Str)
abbrev RunS := Mem × List Bool × List Int
def runStep (k : Kd) (n : Int) (s : RunS) (p : Int × Str) : RunS :=
  ((recG k n s.1 p.1 p.2).2, s.2.1 ++ [(recG k n s.1 p.1 p.2).1], s.2.2 ++ [((knownG k n (recG k n s.1 p.1 p.2).2 p.1).length : Int)])
def runM (k : Kd) (n : Int) (l : Log) : RunS := l.foldl (runStep k n) ([], [], [])
def runD (s : RunS) : D × List D × List D := (memD s.1, s.2.1.map D.bl, s.2.2.map D.int)
theorem recG_len {k : Kd} {n : Int} {st : Mem} {t : Int} {x : Str} : (recG k n st t x).2.length ≤ st.length + 1 := by
  unfold recG
  split
  · exact Nat.le_succ _
  · show (shortG k n (dropG x st ++ [(x, t)])).length ≤ _
    have h1 : (dropG x st ++ [(x, t)]).length ≤ st.length + 1 := by
      rw [List.length_append]
      have := dropM_len x st
      simp only [List.length_cons, List.length_nil]
      omega
    unfold shortG
    split
    · rw [List.length_drop]
      omega
    · exact h1
theorem runM_snoc (k : Kd) (n : Int) (l : Log) (p : Int × Str) : runM k n (l ++ [p]) = runStep k n (runM k n l) p := by
  unfold runM
  rw [List.foldl_append]
  rfl
theorem runM_len (k : Kd) (n : Int) (l : Log) : (runM k n l).1.length ≤ l.length ∧ (runM k n l).2.1.length = l.length ∧ (runM k n l).2.2.length = l.length := by
  refine snoc_ind (P := fun l => (runM k n l).1.length ≤ l.length ∧ (runM k n l).2.1.length = l.length ∧ (runM k n l).2.2.length = l.length) ⟨Nat.le_refl _, rfl, rfl⟩ (fun l p ih => ?_) l
  rw [runM_snoc]
  have h := recG_len (k := k) (n := n) (st := (runM k n l).1) (t := p.1) (x := p.2)
  unfold runStep
  simp only [List.length_append, List.length_cons, List.length_nil]
  omega
def flagsM (k : Kd) (n : Int) (l : Log) : List Bool := (runM k n l).2.1
def sizesM (k : Kd) (n : Int) (l : Log) : List Int := (runM k n l).2.2
def stM (k : Kd) (n : Int) (l : Log) : Mem := (runM k n l).1
@[simp] theorem flagsM_len (k : Kd) (n : Int) (l : Log) : (flagsM k n l).length = l.length := (runM_len k n l).2.1
@[simp] theorem sizesM_len (k : Kd) (n : Int) (l : Log) : (sizesM k n l).length = l.length := (runM_len k n l).2.2
theorem run_eq (k : Kd) (n : Int) (l : Log) (h : 1 ≤ n) (hl : l.length ≤ 60) : den_run [ruleD k n, logD l] = pure ((flagsM k n l).map D.bl, (sizesM k n l).map D.int, memD (stM k n l)) := by
  show dn_run _ _ = _
  unfold dn_run
  have e0 : (c_EMPTY, ([] : List D), ([] : List D)) = runD (runM k n []) := rfl
  simp only [pure_bind, log_seq]
  rw [e0]
  refine step (for_pre msgD (fun pre => runD (runM k n pre)) l fun pre p post e => ?_) ?_
  · have hp := runM_len k n pre
    have hlen : pre.length + 1 ≤ 60 := by rw [e] at hl; simp at hl; omega
    have h1 := recG_len (k := k) (n := n) (st := (runM k n pre).1) (t := p.1) (x := p.2)
    have n1 : ((runM k n pre).2.1.map D.bl).length ≤ 100000 := by rw [List.length_map]; omega
    have n2 : ((runM k n pre).2.2.map D.int).length ≤ 100000 := by rw [List.length_map]; omega
    rw [runM_snoc]
    simp only [runD, runStep, msg_pat, pure_bind, received_eq k n (runM k n pre).1 p.1 p.2 h (by omega), pat2T, names_known_eq k n _ p.1 (show (recG k n (runM k n pre).1 p.1 p.2).2.length < 64 by omega), len_lst, app_ok n1, app_ok n2]
    simp only [List.length_map, sortM_len, List.map_append, List.map_cons, List.map_nil]
  · have hf : (((flagsM k n l).map D.bl).all D.flat = true ∧ ((sizesM k n l).map D.int).all D.flat = true) := ⟨flat_blL _, flat_intL _⟩
    exact need_of hf
theorem decisions_eq {k : Kd} {n : Int} {l : Log} (hr : okRule k n) (hl : okLog l = true) : den_decisions [ruleD k n, logD l] = pure ((flagsM k n l).map D.bl) := by
  show dn_decisions _ _ = _
  unfold dn_decisions
  simp only [pure_bind, need_rule_eq hr, need_log_eq hl, run_eq k n l hr.1 (okLog_len hl)]
  rfl
theorem memory_eq {k : Kd} {n : Int} {l : Log} (hr : okRule k n) (hl : okLog l = true) : den_memory [ruleD k n, logD l] = pure ((sizesM k n l).map D.int) := by
  show dn_memory _ _ = _
  unfold dn_memory
  simp only [pure_bind, need_rule_eq hr, need_log_eq hl, run_eq k n l hr.1 (okLog_len hl)]
  rfl
/-- what is remembered behind a log -/
def rememberedM (k : Kd) (n : Int) (l : Log) : List Str := match l.getLast? with
  | none => []
  | some p => sortM (knownG k n (stM k n l) p.1)
theorem remembered_eq {k : Kd} {n : Int} {l : Log} (hr : okRule k n) (hl : okLog l = true) : den_remembered [ruleD k n, logD l] = pure ((rememberedM k n l).map D.str) := by
  show dn_remembered _ _ = _
  unfold dn_remembered rememberedM
  have h60 := okLog_len hl
  have hlen := (runM_len k n l).1
  cases hg : l.getLast? with
  | none =>
    have e := List.getLast?_eq_none_iff.mp hg
    subst e
    simp only [pure_bind, need_rule_eq hr, need_log_eq hl, ne_log_nil hl, boolD_bl]
    rfl
  | some p =>
    have e : l.isEmpty = false := by
      cases l with
      | nil => cases hg
      | cons _ _ => rfl
    simp only [pure_bind, need_rule_eq hr, need_log_eq hl, ne_log_nil hl, boolD_bl, run_eq k n l hr.1 h60, e, Bool.not_false, if_true, tup3, idxT2, neg_int, log_last hg, msg_0]
    exact names_known_eq k n _ p.1 (by unfold stM; omega)
/-! ### slips -/
def slipStep (l : Log) (flags : List Bool) (s : List Int × List Str) (i : Nat) : List Int × List Str :=
  if flags.getD i false = true then ((if (l.getD i (0, "")).2 ∈ s.2 then s.1 ++ [(i : Int)] else s.1), s.2 ++ [(l.getD i (0, "")).2]) else s
def slipS (l : Log) (flags : List Bool) (m : Nat) : List Int × List Str := (List.range m).foldl (slipStep l flags) ([], [])
def slipsM (l : Log) (flags : List Bool) : List Int := (slipS l flags l.length).1
theorem slipS_succ (l : Log) (flags : List Bool) (m : Nat) : slipS l flags (m + 1) = slipStep l flags (slipS l flags m) m := by
  unfold slipS
  rw [List.range_succ, List.foldl_append]
  rfl
theorem slipS_len (l : Log) (flags : List Bool) (m : Nat) : (slipS l flags m).1.length ≤ m ∧ (slipS l flags m).2.length ≤ m := by
  induction m with
  | zero => exact ⟨Nat.le_refl _, Nat.le_refl _⟩
  | succ m ih =>
    rw [slipS_succ]
    unfold slipStep
    split
    · split <;> simp <;> omega
    · omega
theorem zipIdx_split {α : Type} {l : List α} {pre post : List (α × Nat)} {a : α × Nat} (h : l.zipIdx = pre ++ a :: post) : a.2 = pre.length ∧ l[pre.length]? = some a.1 ∧ pre.length < l.length := by
  have hl : pre.length < l.zipIdx.length := by rw [h]; simp
  have hg : l.zipIdx[pre.length]? = some a := by rw [h]; simp
  rw [List.getElem?_zipIdx] at hg
  rw [List.length_zipIdx] at hl
  rw [List.getElem?_eq_getElem hl] at hg ⊢
  simp at hg
  cases hg
  exact ⟨rfl, rfl, hl⟩
theorem slipped_eq {l : Log} {flags : List Bool} (hl : l.length ≤ 1000) (hf : flags.length = l.length) : den_slipped [logD l, .lst (flags.map D.bl)] = pure ((slipsM l flags).map D.int) := by
  show dn_slipped _ _ = _
  unfold dn_slipped
  simp only [pure_bind, log_enum, enumL_map]
  have e0 : (([] : List D), ([] : List D)) = ((slipS l flags 0).2.map D.str, (slipS l flags 0).1.map D.int) := rfl
  rw [e0]
  refine step (for_pre (fun p : (Int × Str) × Nat => D.pr [.int p.2, msgD p.1]) (fun pre => ((slipS l flags pre.length).2.map D.str, (slipS l flags pre.length).1.map D.int)) l.zipIdx fun pre p post e => ?_) ?_
  · obtain ⟨e1, e2, e3⟩ := zipIdx_split e
    have hs := slipS_len l flags pre.length
    have hfl : flags[pre.length]? = some (flags.getD pre.length false) := by
      rw [List.getElem?_eq_getElem (by omega), List.getD_eq_getElem?_getD, List.getElem?_eq_getElem (by omega)]
      rfl
    have hn : (l.getD pre.length (0, "")) = p.1 := by rw [List.getD_eq_getElem?_getD, e2]; rfl
    have n1 : ((slipS l flags pre.length).1.map D.int).length ≤ 100000 := by rw [List.length_map]; omega
    have n2 : ((slipS l flags pre.length).2.map D.str).length ≤ 100000 := by rw [List.length_map]; omega
    rw [List.length_append, List.length_singleton, slipS_succ]
    unfold slipStep
    rw [hn]
    have hp : patTup 2 (patCons pure (patOne (patTup 2 (patCons pure (patOne pure))))) (.pr [.int pre.length, msgD p.1]) = pure (.int pre.length, .int p.1.1, .str p.1.2) := rfl
    simp only [hp, pure_bind, e1, idxLm D.bl hfl, boolD_bl, in_strL, app_ok n1, app_ok n2]
    cases flags.getD pre.length false with
    | false => rfl
    | true =>
      by_cases hm : p.1.2 ∈ (slipS l flags pre.length).2
      · simp [hm]
      · simp [hm]
  · show pure _ = _
    rw [List.length_zipIdx]
    rfl
theorem slips_eq {k : Kd} {n : Int} {l : Log} (hr : okRule k n) (hl : okLog l = true) : den_slips [ruleD k n, logD l] = pure ((slipsM l (flagsM k n l)).map D.int) := by
  show dn_slips _ _ = _
  unfold dn_slips
  have h60 := okLog_len hl
  simp only [pure_bind, need_rule_eq hr, need_log_eq hl, run_eq k n l hr.1 h60, fst3, if_true]
  exact slipped_eq (by omega) (flagsM_len k n l)
end DG

/-! ## PE -/
set_option Elab.async false
set_option linter.all false
set_option maxRecDepth 100000
set_option maxHeartbeats 4000000
namespace DG
open PySem PySem.Spec PyProof.Rows L2
/-! ### the bag -/
theorem take_better (ds : List D) (P : D → Prop) (E : Exn → Prop) (h : takeD ds P E) : den__law_take ds P E := by
  unfold takeD at h
  split at h
  · rename_i m
    obtain ⟨hm, h⟩ := h
    intro c hc
    refine ⟨show 0 ≤ c + 1 by omega, ?_⟩
    intro xs hx c2 hc2 ys hy
    have hl : ((ys.map D.int).length : Int) = 400 := by rw [List.length_map, hy.1]; rfl
    have hpos : (0 : Int) < ((ys.map D.int).length : Int) := by omega
    refine ⟨hpos, ?_⟩
    obtain ⟨j, ej, hj⟩ : ∃ j : Nat, c2 % ((ys.map D.int).length : Int) = (j : Int) ∧ j < xs.length := by
      have h1 := Int.emod_lt_of_pos c2 hpos
      have h2 := Int.emod_nonneg c2 (show ((ys.map D.int).length : Int) ≠ 0 by omega)
      refine ⟨(c2 % ((ys.map D.int).length : Int)).toNat, by omega, ?_⟩
      rw [hx.1]
      omega
    have ha : atI (xs.map D.int) (c2 % ((ys.map D.int).length : Int)) = some (.int xs[j]) := by
      rw [ej]
      exact atI_nat (by rw [List.getElem?_map, List.getElem?_eq_getElem hj]; rfl)
    show (match atI (xs.map D.int) (c2 % ((ys.map D.int).length : Int)) with | some d => pure d | none => stuck : W D) _ E
    rw [ha]
    refine ⟨hm, h _ ⟨Int.emod_nonneg _ (by omega), Int.emod_lt_of_pos _ hm⟩⟩
  · exact False.elim h
theorem take_eq {m : Int} (h : 0 < m) : takeD [.bag, .int m] = (do let z ← anyW (fun z : Int => 0 ≤ z ∧ z < m); pure (.int z)) := need_of h
def inDraw (d : Int) : Prop := 0 ≤ d ∧ d < 1000
theorem draws_ok (cell : Int) (P : List D → Prop) (E : Exn → Prop) (h : ∀ ds, drawsOk ds → P (ds.map D.int)) : den__law_draws [.int cell, .int 400, .int 1000] P E := by
  show dn__law_draws _ _ _ P E
  unfold dn__law_draws
  simp only [pure_bind]
  -- rest
  have hp : powD (.int 10) (.int 18) = pure (.int (10 ^ 18)) := need_of (by unfold CPow; decide)
  have hr : ∃ r, 0 ≤ r ∧ toIntD [.bl (decide ((10 : Int) ^ 18 ≤ cell))] = pure (.int (if decide ((10 : Int) ^ 18 ≤ cell) then 1 else 0)) ∧ mulD (.int cell) (.int (if decide ((10 : Int) ^ 18 ≤ cell) then 1 else 0)) = pure (.int r) := by
    by_cases q : (10 : Int) ^ 18 ≤ cell
    · refine ⟨cell * 1, by have : (0 : Int) ≤ 10 ^ 18 := by decide
                           omega, rfl, ?_⟩
      simp only [q, decide_true, if_true]
      exact need_of (.inr (by decide))
    · refine ⟨cell * 0, by omega, rfl, ?_⟩
      simp only [q, decide_false, Bool.false_eq_true, if_false]
      exact need_of (.inr (by decide))
  obtain ⟨r, hr0, hr1, hr2⟩ := hr
  have hm : modD (.int cell) (.int 2305843009213693951) = pure (.int (cell % 2305843009213693951)) := need_of (by decide)
  have hrg : rng1D [.int (400 + 3)] = pure (rngL 0 403) := need_of (by decide)
  simp only [hp, ge_int, pure_bind, hr1, hr2, hm, add_int, hrg]
  refine for_inv (fun i s => ∃ (a r : Int) (ds : List Int), s = (.int a, .int r, ds.map D.int) ∧ 0 ≤ a ∧ a < 2305843009213693951 ∧ 0 ≤ r ∧ ds.length = i - 3 ∧ ∀ d ∈ ds, inDraw d) (rngL 0 403) 0 _ _ (fun j d s Q hd hi hq => ?_) ?_ ?_
  · obtain ⟨a, r, ds, rfl, ha0, ha1, hr0, hl, hds⟩ := hi
    obtain ⟨rfl, hj⟩ := rng_get hd
    rw [Nat.zero_add] at hl hq
    rw [Int.zero_add]
    have m1 : mulD (.int a) (.int a) = pure (.int (a * a)) := need_of (.inl ⟨by omega, by omega⟩)
    have m2 : mulD (.int 48271) (.int a) = pure (.int (48271 * a)) := need_of (.inl (by decide))
    have m3 : modD (.int (a * a + 48271 * a + (j : Int) + 1)) (.int 2305843009213693951) = pure (.int ((a * a + 48271 * a + (j : Int) + 1) % 2305843009213693951)) := need_of (by decide)
    have m4 : modD (.int r) (.int 1000) = pure (.int (r % 1000)) := need_of (by decide)
    have m5 : divD (.int r) (.int 1000) = pure (.int (r / 1000)) := need_of ⟨by decide, by decide⟩
    have m6 : ∀ z : Int, divD (.int z) (.int 4096) = pure (.int (z / 4096)) := fun z => need_of ⟨by decide, by decide⟩
    have m7 : ∀ z : Int, modD (.int z) (.int 1000) = pure (.int (z % 1000)) := fun z => need_of (by decide)
    have m8 : ((ds.map D.int).length < line) := by
      rw [List.length_map]
      exact Nat.lt_of_le_of_lt (show ds.length ≤ 403 by omega) (by decide)
    have b0 := Int.emod_nonneg (a * a + 48271 * a + (j : Int) + 1) (show (2305843009213693951 : Int) ≠ 0 by decide)
    have b1 := Int.emod_lt_of_pos (a * a + 48271 * a + (j : Int) + 1) (show (0 : Int) < 2305843009213693951 by decide)
    simp only [pure_bind, m1, m2, add_int, m3, gt_int, boolD_bl, m4, m5, m6, m7, need_of m8]
    by_cases h2 : (2 : Int) < (j : Int)
    · have hadd : ∀ z : Int, 0 ≤ z → z < 1000 → ∀ r', 0 ≤ r' → Q (.int ((a * a + 48271 * a + (j : Int) + 1) % 2305843009213693951), .int r', ds.map D.int ++ [.int z]) := fun z z0 z1 r' hr' => hq _ ⟨_, r', ds ++ [z], by simp only [List.map_append, List.map_cons, List.map_nil], b0, b1, hr', by rw [List.length_append]; simp only [List.length_cons, List.length_nil]; omega, fun d hd => by
        rcases List.mem_append.mp hd with m | m
        · exact hds d m
        · rw [List.mem_singleton.mp m]
          exact ⟨z0, z1⟩⟩
      by_cases h3 : (0 : Int) < r
      · simp only [h2, h3, decide_true, if_true, pure_bind]
        exact hadd _ (Int.emod_nonneg _ (by decide)) (Int.emod_lt_of_pos _ (by decide)) _ (Int.ediv_nonneg hr0 (by decide))
      · simp only [h2, h3, decide_true, decide_false, if_true, Bool.false_eq_true, if_false, pure_bind]
        exact hadd _ (Int.emod_nonneg _ (by decide)) (Int.emod_lt_of_pos _ (by decide)) _ hr0
    · simp only [h2, decide_false, Bool.false_eq_true, if_false, pure_bind]
      exact hq _ ⟨_, r, ds, rfl, b0, b1, hr0, by omega, hds⟩
  · exact ⟨_, r, [], rfl, Int.emod_nonneg _ (by decide), Int.emod_lt_of_pos _ (by decide), hr0, rfl, fun d hd => by cases hd⟩
  · intro s ⟨a, r, ds, e, _, _, _, hl, hds⟩
    subst e
    rw [rng_len] at hl
    exact h ds ⟨by omega, hds⟩

theorem scr_idx {ns : List Int} {k : Nat} {n : Int} (h : ns[k]? = some n) : idxD (.scr ns) (.int k) = pure (.int n) := by
  show (match atI ns k with | some n => pure (.int n) | none => stuck : W D) = _
  rw [atI_nat h]
theorem cell_ok (ns : List Int) (k : Nat) : ∃ c : Int, den__law_cell_at [.scr ns, .int k] = pure (.int c) := by
  show ∃ c : Int, dn__law_cell_at ns (.int k) = _
  unfold dn__law_cell_at
  by_cases h : k < ns.length
  · have e : idxD (.scr ns) (.int k) = pure (.int ns[k]) := scr_idx (List.getElem?_eq_getElem h)
    have h2 : (k : Int) < (ns.length : Int) := by omega
    exact ⟨ns[k], by simp [e, h2]⟩
  · have h2 : ¬ (k : Int) < (ns.length : Int) := by omega
    exact ⟨0, by simp [h2]⟩
theorem bag_ok (ns : List Int) (k : Nat) (P : List D → Prop) (E : Exn → Prop) (h : ∀ ds, drawsOk ds → P [.lst (ds.map D.int), .int 0]) : den__law_bag [.scr ns, .int k] P E := by
  show dn__law_bag _ _ P E
  unfold dn__law_bag
  obtain ⟨c, hc⟩ := cell_ok ns k
  simp only [pure_bind, hc]
  exact draws_ok c _ E fun ds hd => h ds hd
/-- a comprehension whose items are drawn -/
theorem comp_any {α : Type} {f : D → W (Option D)} {e : α → D} {G : D → Prop} : ∀ (as : List α) (P : List D → Prop) (E : Exn → Prop), (∀ a ∈ as, ∀ Q : Option D → Prop, (∀ d, G d → Q (some d)) → f (e a) Q fun _ => False) → (∀ ds : List D, ds.length = as.length → (∀ d ∈ ds, G d) → P ds) → compW (as.map e) f P E
  | [], P, E, _, h => h [] rfl fun d m => by cases m
  | a :: as, P, E, hf, h => by
    show (f (e a)) (fun o => compW (as.map e) f (fun xs => P (o.toList ++ xs)) E) fun _ => False
    refine hf a List.mem_cons_self _ fun d hd => ?_
    refine comp_any as _ E (fun b m => hf b (List.mem_cons_of_mem _ m)) fun ds hl hds => h (d :: ds) (by rw [List.length_cons, List.length_cons, hl]) fun x m => ?_
    rcases List.mem_cons.mp m with rfl | m
    · exact hd
    · exact hds x m
theorem bags_ok (lim : Int) (h1 : 1 ≤ lim) (h2 : lim ≤ 1000) (ns : List Int) : den__law_bags [.scr ns, .int lim] (fun d => ∃ bss : List (List Int), d = .lst (bss.map bagD) ∧ ∀ ds ∈ bss, drawsOk ds) fun _ => False := by
  show dn__law_bags _ _ _ _
  unfold dn__law_bags
  obtain ⟨m, hm, hm2⟩ : ∃ m : Nat, max 1 (min lim (ns.length : Int)) = (m : Int) ∧ m ≤ 1000 := ⟨(max 1 (min lim (ns.length : Int))).toNat, by omega, by omega⟩
  simp only [pure_bind, len_scr, min_int, max_int, hm, rng1_nat (show m ≤ 1000000000 by omega)]
  rw [need_line (by rw [List.length_map, List.length_range]; omega)]
  refine comp_any (G := fun d => ∃ ds, drawsOk ds ∧ d = bagD ds) (List.range m) _ _ (fun k _ Q hq => ?_) fun ds _ hds => ?_
  · exact bag_ok ns k _ _ fun ds hd => hq _ ⟨ds, hd, rfl⟩
  · have : ∀ ds : List D, (∀ d ∈ ds, ∃ xs, drawsOk xs ∧ d = bagD xs) → ∃ bss : List (List Int), ds = bss.map bagD ∧ ∀ xs ∈ bss, drawsOk xs := fun ds h => by
      induction ds with
      | nil => exact ⟨[], rfl, fun _ m => by cases m⟩
      | cons d ds ih =>
        obtain ⟨xs, hx, e⟩ := h d List.mem_cons_self
        obtain ⟨bss, e2, hb⟩ := ih fun x m => h x (List.mem_cons_of_mem _ m)
        refine ⟨xs :: bss, by rw [e, e2]; rfl, fun y m => ?_⟩
        rcases List.mem_cons.mp m with rfl | m
        · exact hx
        · exact hb y m
    obtain ⟨bss, e, hb⟩ := this ds hds
    exact ⟨bss, by rw [e], hb⟩
/-! ### draws -/
theorem take_run {m : Int} (hm : 0 < m) {P : D → Prop} {E : Exn → Prop} (h : ∀ z, 0 ≤ z → z < m → P (.int z)) : takeD [.bag, .int m] P E := ⟨hm, fun z hz => h z hz.1 hz.2⟩
/-- one of a list, by a draw -/
theorem take_of {P : D → Prop} {E : Exn → Prop} (ds : List D) (hl : ds.length ≤ 100000) (hp : 0 < ds.length) (h : ∀ d ∈ ds, P d) : (takeD [.bag, .int ds.length] >>= fun y => idxD (.lst ds) y) P E := by
  refine take_run (by omega) fun z h0 h1 => ?_
  obtain ⟨j, rfl⟩ : ∃ j : Nat, z = (j : Int) := ⟨z.toNat, by omega⟩
  have hj : j < ds.length := by omega
  show (idxD (.lst ds) (.int j)) P E
  rw [idxL (List.getElem?_eq_getElem hj)]
  exact h _ (List.getElem_mem hj)
theorem take_then {β : Type} {m : Int} (hm : 0 < m) {k : D → W β} {P : β → Prop} {E : Exn → Prop} (h : ∀ z, 0 ≤ z → z < m → (k (.int z)) P E) : (takeD [.bag, .int m] >>= k) P E := take_run hm h
theorem pick_then {β : Type} {k : D → W β} {P : β → Prop} {E : Exn → Prop} (ds : List D) (hl : ds.length ≤ 100000) (hp : 0 < ds.length) (h : ∀ d ∈ ds, (k d) P E) : (takeD [.bag, .int ds.length] >>= fun y => idxD (.lst ds) y >>= k) P E := by
  rw [← bind_assoc, bind_run]
  exact take_of ds hl hp h
theorem far_ok {m : Int} (hm : 0 < m) (hm2 : m ≤ 1000000000) {P : D → Prop} {E : Exn → Prop} (h : ∀ z, 0 ≤ z → z < m → P (.int z)) : den__law_far_draw [.bag, .int m] P E := by
  show dn__law_far_draw _ P E
  unfold dn__law_far_draw
  simp only [pure_bind]
  refine ⟨fun s => ∃ a b : Int, s = (.int a, .int b) ∧ 0 ≤ a ∧ 0 ≤ b, fun s => match s.2 with | .int b => b.toNat | _ => 0, ⟨0, m, rfl, by omega, by omega⟩, fun s hs => ?_⟩
  obtain ⟨a, b, rfl, ha, hb⟩ := hs
  simp only [pure_bind, gt_int, boolD_bl, pure_run]
  by_cases hb0 : 0 < b
  · rw [if_pos (decide_eq_true hb0)]
    simp only [mul_int (show CMul 1000 a from .inl (by decide)), div_int (show CDiv b 1000 from ⟨by decide, by decide⟩), pure_bind, bind_run]
    refine take_run (by decide) fun z h0 h1 => ?_
    show (∃ a b : Int, _) ∧ _
    refine ⟨⟨_, _, rfl, by omega, Int.ediv_nonneg hb (by decide)⟩, ?_⟩
    show (b / 1000).toNat < b.toNat
    omega
  · rw [if_neg (by simpa using hb0)]
    simp only [mod_int hm, pure_bind, sub_int]
    refine take_of [.int (a % m), .int 0, .int (m - 1), .int (a % m)] (by simp) (by simp) fun d hd => ?_
    have h1 := Int.emod_nonneg a (show m ≠ 0 by omega)
    have h2 := Int.emod_lt_of_pos a hm
    simp only [List.mem_cons, List.not_mem_nil, or_false] at hd
    rcases hd with rfl | rfl | rfl | rfl
    · exact h _ h1 h2
    · exact h _ (by omega) (by omega)
    · exact h _ (by omega) (by omega)
    · exact h _ h1 h2
theorem kind_ok {P : D → Prop} {E : Exn → Prop} (h : ∀ k : Kd, P (.str k.str)) : den__law_kind [.bag] P E := by
  show dn__law_kind P E
  unfold dn__law_kind
  simp only [pure_bind]
  refine take_of [.str "last", .str "recent", .str "hold", .str "renew"] (by decide) (by decide) fun d hd => ?_
  simp only [List.mem_cons, List.not_mem_nil, or_false] at hd
  rcases hd with rfl | rfl | rfl | rfl
  · exact h .last
  · exact h .recent
  · exact h .hold
  · exact h .renew
theorem far_then {β : Type} {m : Int} (hm : 0 < m) (hm2 : m ≤ 1000000000) {k : D → W β} {P : β → Prop} {E : Exn → Prop} (h : ∀ z, 0 ≤ z → z < m → (k (.int z)) P E) : (den__law_far_draw [.bag, .int m] >>= k) P E := far_ok hm hm2 h
theorem kind_then {β : Type} {k : D → W β} {P : β → Prop} {E : Exn → Prop} (h : ∀ kd : Kd, (k (.str kd.str)) P E) : (den__law_kind [.bag] >>= k) P E := kind_ok h
theorem rule_ok {P : D → Prop} {E : Exn → Prop} (h : ∀ (k : Kd) (n : Int), okRule k n → P (ruleD k n)) : den__law_rule [.bag] P E := by
  show dn__law_rule P E
  unfold dn__law_rule
  simp only [pure_bind, bind_assoc]
  refine kind_then fun k => ?_
  have hk := kd_hr k
  refine pick_then [.int 4, .int 9, .int 60] (by decide) (by decide) fun d hd => ?_
  obtain ⟨m, rfl, m0, m1⟩ : ∃ m : Int, d = .int m ∧ 0 < m ∧ m ≤ 60 := by
    simp only [List.mem_cons, List.not_mem_nil, or_false] at hd
    rcases hd with rfl | rfl | rfl <;> exact ⟨_, rfl, by decide, by decide⟩
  refine take_then m0 fun z h0 h1 => ?_
  have hp : powD (.int 10) (.int 6) = pure (.int (10 ^ 6)) := need_of (by unfold CPow; decide)
  simp only [pure_bind, add_int, in_T2, hk, boolD_bl]
  by_cases hc : k.cnt = true
  · simp only [hc, Bool.not_true, Bool.false_eq_true, if_false, pure_bind]
    refine h k _ ⟨by omega, ?_⟩
    cases k <;> first | (show 1 + z ≤ 60; omega) | cases hc
  · have hmost : k.most = 1000000 := by cases k <;> first | rfl | exact absurd rfl hc
    simp only [Bool.eq_false_iff.mpr hc, Bool.not_false, if_true, pure_bind, hp, bind_assoc]
    refine take_then (by decide) fun y h2 h3 => ?_
    simp only [pure_bind, eq_int, boolD_bl]
    by_cases hy : y = 0
    · rw [if_pos (by simpa using hy)]
      simp only [pure_bind, bind_assoc]
      refine far_then (by decide) (by decide) fun u h4 h5 => ?_
      simp only [add_int, pure_bind]
      exact h k _ ⟨by omega, by rw [hmost]; have : (10 : Int) ^ 6 = 1000000 := by decide
                                omega⟩
    · rw [if_neg (by simpa using hy)]
      simp only [pure_bind]
      exact h k _ ⟨by omega, by rw [hmost]; omega⟩
theorem rule_then {β : Type} {k : D → W β} {P : β → Prop} {E : Exn → Prop} (h : ∀ (kd : Kd) (n : Int), okRule kd n → (k (ruleD kd n)) P E) : (den__law_rule [.bag] >>= k) P E := rule_ok h
end DG

/-! ## PF -/
set_option Elab.async false
set_option linter.all false
set_option maxRecDepth 100000
set_option maxHeartbeats 4000000
namespace DG
open PySem PySem.Spec PyProof.Rows L2
/-! ### drawn logs -/
def logNames : List Str := ["a", "b", "c", "dd", "ee", "ff", "g", "hh", "zzzzzzzz", "k", "l", "m"]
def upPw (l : Log) : Prop := l.Pairwise fun p q => p.1 ≤ q.1
structure Drawn (most : Nat) (l : Log) : Prop where
  len : l.length ≤ most
  tk : ∀ p ∈ l, 0 ≤ p.1 ∧ p.1 ≤ 130000
  nm : ∀ p ∈ l, p.2 ∈ logNames
  up : upPw l
theorem upL_cons (p q : Int × Str) (l : Log) : upL (p :: q :: l) = (decide (p.1 ≤ q.1) && upL (q :: l)) := rfl
theorem upL_of : ∀ {l : Log}, upPw l → upL l = true
  | [], _ => rfl
  | [p], _ => rfl
  | p :: q :: l, h => by
    unfold upPw at h
    rw [List.pairwise_cons] at h
    rw [upL_cons, upL_of h.2, Bool.and_true]
    exact decide_eq_true (h.1 q List.mem_cons_self)
theorem upL_pw : ∀ {l : Log}, upL l = true → upPw l
  | [], _ => .nil
  | [p], _ => List.pairwise_singleton _ _
  | p :: q :: l, h => by
    rw [upL_cons, Bool.and_eq_true, decide_eq_true_eq] at h
    have ih := upL_pw h.2
    unfold upPw at ih ⊢
    rw [List.pairwise_cons]
    refine ⟨fun r m => ?_, ih⟩
    rcases List.mem_cons.mp m with rfl | m
    · exact h.1
    · exact Int.le_trans h.1 ((List.pairwise_cons.mp ih).1 r m)
theorem logNames_ok : ∀ x ∈ logNames, okName x = true := by decide +kernel
theorem okLog_of {l : Log} (hl : l.length ≤ 60) (ht : ∀ p ∈ l, 0 ≤ p.1 ∧ p.1 ≤ 1000000) (hn : ∀ p ∈ l, okName p.2 = true) (hu : upPw l) : okLog l = true := by
  unfold okLog
  rw [upL_of hu, Bool.and_true, Bool.and_eq_true, decide_eq_true_eq, List.all_eq_true]
  refine ⟨hl, fun p m => ?_⟩
  unfold okMsg
  rw [hn p m, Bool.and_true, decide_eq_true_eq]
  exact ht p m
theorem okLog_up {l : Log} (h : okLog l = true) : upPw l := by
  unfold okLog at h
  rw [Bool.and_eq_true] at h
  exact upL_pw h.2
theorem Drawn.ok {most : Nat} {l : Log} (h : Drawn most l) (hm : most ≤ 60) : okLog l = true :=
  okLog_of (Nat.le_trans h.len hm) (fun p m => by have := h.tk p m; omega) (fun p m => logNames_ok _ (h.nm p m)) h.up
theorem log_ok {most : Nat} (hm : most ≤ 60) {P : D → Prop} {E : Exn → Prop} (h : ∀ l : Log, Drawn most l → P (logD l)) : den__law_log [.bag, .int most] P E := by
  show dn__law_log _ P E
  unfold dn__law_log
  simp only [pure_bind, bind_assoc]
  refine take_then (by decide) fun z z0 z1 => ?_
  simp only [add_int, pure_bind, int_int, slc_lst]
  obtain ⟨j, rfl⟩ : ∃ j : Nat, z = (j : Int) := ⟨z.toNat, by omega⟩
  obtain ⟨ns, hns, hsub, hne, hlen⟩ : ∃ ns : List Str, cutL [D.str "a", D.str "b", D.str "c", D.str "dd", D.str "ee", D.str "ff", D.str "g", D.str "hh", D.str "zzzzzzzz", D.str "k", D.str "l", D.str "m"] none (some (1 + (j : Int))) = ns.map D.str ∧ (∀ x ∈ ns, x ∈ logNames) ∧ 0 < ns.length ∧ ns.length ≤ 12 := by
    refine ⟨logNames.take (j + 1), ?_, fun x m => List.mem_of_mem_take m, ?_, ?_⟩
    · rw [show (1 + (j : Int)) = ((j + 1 : Nat) : Int) by omega, cut_to, List.map_take]
      rfl
    · rw [List.length_take]
      show 0 < min (j + 1) 12
      omega
    · rw [List.length_take]
      show min (j + 1) 12 ≤ 12
      omega
  rw [hns]
  refine pick_then [.int 1, .int 2, .int 5, .int 2000] (by decide) (by decide) fun d hd => ?_
  obtain ⟨wd, rfl, w0, w1⟩ : ∃ wd : Int, d = .int wd ∧ 0 < wd ∧ wd ≤ 2000 := by
    simp only [List.mem_cons, List.not_mem_nil, or_false] at hd
    rcases hd with rfl | rfl | rfl | rfl <;> exact ⟨_, rfl, by decide, by decide⟩
  refine take_then (by decide) fun t t0 t1 => ?_
  refine take_then (by omega) fun m m0 m1 => ?_
  obtain ⟨i, rfl⟩ : ∃ i : Nat, m = (i : Int) := ⟨m.toNat, by omega⟩
  simp only [rng1_nat (show i ≤ 1000000000 by omega), pure_bind]
  rw [bind_run]
  refine for_inv (fun n s => ∃ (t : Int) (l : Log), s = (.int t, l.map msgD) ∧ l.length = n ∧ 0 ≤ t ∧ t ≤ 2 + 2000 * n ∧ (∀ p ∈ l, 0 ≤ p.1 ∧ p.1 ≤ t) ∧ (∀ p ∈ l, p.2 ∈ logNames) ∧ upPw l) _ 0 _ _ (fun n d s Q hd hi hq => ?_) ⟨t, [], rfl, rfl, t0, by omega, (fun _ m => by cases m), (fun _ m => by cases m), .nil⟩ fun s hs => ?_
  · obtain ⟨t, l, rfl, hl, h0, h1, h2, h3, h4⟩ := hi
    rw [Nat.zero_add] at hl h1 hq
    have hn : n < i := by
      have := (List.getElem?_eq_some_iff.mp hd).1
      simpa using this
    refine take_then w0 fun z z0 z1 => ?_
    simp only [add_int, pure_bind, len_lst]
    refine pick_then (ns.map D.str) (by rw [List.length_map]; omega) (by rw [List.length_map]; omega) fun d hd => ?_
    obtain ⟨x, mx, rfl⟩ := List.mem_map.mp hd
    have n1 : (l.map msgD).length ≤ 100000 := by rw [List.length_map]; omega
    simp only [app_ok n1, pure_bind]
    refine hq _ ⟨t + z, l ++ [(t + z, x)], by rw [List.map_append]; rfl, by simp [hl], by omega, by omega, fun p m => ?_, fun p m => ?_, ?_⟩
    · rcases List.mem_append.mp m with m | m
      · have := h2 p m
        omega
      · rw [List.mem_singleton.mp m]
        exact ⟨by omega, Int.le_refl _⟩
    · rcases List.mem_append.mp m with m | m
      · exact h3 p m
      · rw [List.mem_singleton.mp m]
        exact hsub x mx
    · unfold upPw
      rw [List.pairwise_append]
      refine ⟨h4, List.pairwise_singleton _ _, fun p m q k => ?_⟩
      rw [List.mem_singleton.mp k]
      have := h2 p m
      show p.1 ≤ t + z
      omega
  · obtain ⟨t, l, rfl, hl, h0, h1, h2, h3, h4⟩ := hs
    rw [Nat.zero_add, List.length_map, List.length_range] at hl
    rw [Nat.zero_add, List.length_map, List.length_range] at h1
    exact h l ⟨by omega, fun p m => ⟨(h2 p m).1, by have := h2 p m; omega⟩, h3, h4⟩
theorem log_then {β : Type} {most : Nat} (hm : most ≤ 60) {k : D → W β} {P : β → Prop} {E : Exn → Prop} (h : ∀ l : Log, Drawn most l → (k (logD l)) P E) : (den__law_log [.bag, .int most] >>= k) P E := log_ok hm h
end DG

/-! ## PG -/
set_option Elab.async false
set_option linter.all false
set_option maxRecDepth 100000
set_option maxHeartbeats 4000000
namespace DG
open PySem PySem.Spec PyProof.Rows L2
/-! ### the plain reading's defs -/
abbrev Past := PastG Str
def tripD (p : Int × Str × Bool) : D := .tup [.int p.1, .str p.2.1, .bl p.2.2]
def pastD (ps : Past) : D := .lst (ps.map tripD)
@[simp] theorem trip_pat (p : Int × Str × Bool) : patTup 3 (patCons pure (patCons pure (patOne pure))) (tripD p) = pure (.int p.1, .str p.2.1, .bl p.2.2) := rfl
@[simp] theorem past_seq (ps : Past) : seqD (pastD ps) = pure (ps.map tripD) := rfl
theorem uniqStep_len {f : List Str} {n : Int} {x : Str} : (uniqStep f n x).length ≤ f.length + 1 := by
  unfold uniqStep
  split <;> simp
theorem foundStep_len {k : Kd} {n t : Int} {f : List Str} {p : Int × Str × Bool} : (foundStep k n t f p).length ≤ f.length + 1 := by
  unfold foundStep
  split <;> simp
theorem last_names_eq (xs : List Str) (n : Int) (h : xs.length ≤ 1000) : den__law_last_names [.lst (xs.map D.str), .int n] = pure ((lastNames xs n).map D.str) := by
  show dn__law_last_names _ _ = _
  unfold dn__law_last_names
  simp only [pure_bind, lst_lst, seq_lst, ← List.map_reverse, bind_pure]
  refine (for_map (g := fun f x => uniqStep f n x) (emb := fun f => f.map D.str) (fun f m => f.length + m ≤ 1000) (fun f x m hj => ?_) xs.reverse [] (by simpa using h)).trans rfl
  have h1 := uniqStep_len (f := f) (n := n) (x := x)
  refine ⟨?_, by show (uniqStep f n x).length + m ≤ 1000; omega⟩
  simp only [notIn_strL, pure_bind, boolD_bl, len_lst, lt_int, List.length_map, need_lt (show f.length ≤ 100000 by omega)]
  unfold uniqStep
  by_cases h2 : x ∈ f
  · simp [h2]
  · by_cases h3 : (f.length : Int) < n
    · simp [h2, h3]
    · simp [h2, h3]
theorem memory_law_eq (k : Kd) (n : Int) (ps : Past) (t : Int) (hn : 1 ≤ n) (h : ps.length ≤ 1000) : den__law_memory [ruleD k n, pastD ps, .int t] = pure ((memG k n ps t).map D.str) := by
  show dn__law_memory _ _ _ = _
  unfold dn__law_memory
  have n1 : (ps.map tripD).length ≤ 100000 := by rw [List.length_map]; omega
  simp only [rule_pat, pure_bind, eq_last, eq_recent, boolD_bl, past_seq, need_line n1, compW_map, trip_pat, sub_int, int_int, lst_lst, ite_pure]
  have c1 : compT ps (fun a => pure (if a.2.2 = true then some (D.str a.2.1) else none)) = pure ((accNames ps).map D.str) := by
    rw [compT_pure, filterMap_ite]
    unfold accNames
    rw [List.map_map]
    rfl
  have c2 : compT ps (fun a => pure (some (D.str a.2.1))) = pure ((ps.map (·.2.1)).map D.str) := by
    rw [compT_pure, filterMap_some', List.map_map]
    rfl
  simp only [c1, c2, pure_bind, cutL_map, cut_last _ n hn, last_names_eq _ n (show (ps.map (·.2.1)).length ≤ 1000 by rw [List.length_map]; exact h)]
  have main : (k = .hold ∨ k = .renew) → (forW (ps.map tripD) [] (fun d57 (s58 : List D) => (patTup 3 (patCons pure (patCons pure (patOne pure)))) d57 >>= fun t59 => ((do let t81 ← (do let x80 ← (do let x68 ← (do let x66 ← (pure (.int t)); let x67 ← (pure t59.1); subD x66 x67); let x69 ← (pure (.int n)); let x70 ← ltD x68 x69; boolD x70); if x80 then (do let x79 ← (do let x71 ← (pure t59.2.1); let x72 ← (pure (.lst s58)); let x73 ← notInD x71 x72; boolD x73); if x79 then (do let x78 ← (do let x74 ← (pure t59.2.2); boolD x74); if x78 then pure true else (do let x75 ← (pure (.str k.str)); let x76 ← (pure (.str "renew")); let x77 ← eqD x75 x76; boolD x77)) else pure false) else pure false); if t81 then ((do let x83 ← (pure t59.2.1); need (List.length s58 < line) (pure (s58 ++ [x83]))) >>= fun s85 => (pure s85)) else (pure s58)) >>= fun s86 => (pure s86)))) = pure ((memG k n ps t).map D.str) := fun hk => by
    refine (for_map (g := foundStep k n t) (emb := fun f => f.map D.str) (fun f m => f.length + m ≤ 1000) (fun f p m hj => ?_) ps [] (by simpa using h)).trans ?_
    · have h1 := foundStep_len (k := k) (n := n) (t := t) (f := f) (p := p)
      have n2 : (f.map D.str).length ≤ 100000 := by rw [List.length_map]; omega
      refine ⟨?_, by omega⟩
      simp only [trip_pat, pure_bind, sub_int, lt_int, boolD_bl, notIn_strL, eq_renew, app_ok n2, ite_pure]
      unfold foundStep
      by_cases h2 : t - p.1 < n
      · by_cases h3 : p.2.1 ∈ f
        · simp [h2, h3]
        · by_cases h4 : p.2.2 = true
          · simp [h2, h3, h4]
          · by_cases h5 : k = .renew <;> simp [h2, h3, h4, h5]
      · simp [h2]
    · cases k with
      | last => exact absurd hk (by decide)
      | recent => exact absurd hk (by decide)
      | hold => rfl
      | renew => rfl
  cases k with
  | last => simp only [decide_true, if_true, lst_lst, pure_bind, List.length_map, memG, List.map_drop]
  | recent => rfl
  | hold =>
    have hm := main (.inl rfl)
    simp only [pure_bind, bind_pure, reduceCtorEq, decide_false, Bool.false_eq_true, if_false, ite_pure] at hm ⊢
    exact hm
  | renew =>
    have hm := main (.inr rfl)
    simp only [pure_bind, bind_pure, reduceCtorEq, decide_false, Bool.false_eq_true, if_false, ite_pure] at hm ⊢
    exact hm
theorem pastG_snoc (k : Kd) (n : Int) (l : Log) (p : Int × Str) : pastG k n (l ++ [p]) = pastStep k n (pastG k n l) p := by
  unfold pastG
  rw [List.foldl_append]
  rfl
@[simp] theorem pastG_len (k : Kd) (n : Int) (l : Log) : (pastG k n l).length = l.length := by
  refine snoc_ind (P := fun l => (pastG k n l).length = l.length) rfl (fun l p ih => ?_) l
  rw [pastG_snoc]
  unfold pastStep
  rw [List.length_append, List.length_append, ih]
  rfl
theorem past_eq (k : Kd) (n : Int) (l : Log) (hn : 1 ≤ n) (h : l.length ≤ 1000) : den__law_past [ruleD k n, logD l] = pure ((pastG k n l).map tripD) := by
  show dn__law_past _ _ = _
  unfold dn__law_past
  simp only [pure_bind, log_seq, bind_pure]
  refine (for_pre msgD (fun pre => (pastG k n pre).map tripD) l fun pre p post e => ?_).trans rfl
  have hl : pre.length ≤ 1000 := by rw [e] at h; simp at h; omega
  have n1 : ((pastG k n pre).map tripD).length ≤ 100000 := by rw [List.length_map, pastG_len]; omega
  have hm := memory_law_eq k n (pastG k n pre) p.1 hn (by rw [pastG_len]; exact hl)
  unfold pastD at hm
  simp only [msg_pat, pure_bind, hm, notIn_strL, flatW, D.flat, if_true, app_ok n1, pastG_snoc, pastStep, List.map_append]
  rfl
def lawFlags (k : Kd) (n : Int) (l : Log) : List Bool := (pastG k n l).map (·.2.2)
theorem flags_eq (k : Kd) (n : Int) (l : Log) (hn : 1 ≤ n) (h : l.length ≤ 1000) : den__law_flags [ruleD k n, logD l] = pure ((lawFlags k n l).map D.bl) := by
  show dn__law_flags _ _ = _
  unfold dn__law_flags
  have n1 : ((pastG k n l).map tripD).length ≤ 100000 := by rw [List.length_map, pastG_len]; omega
  simp only [pure_bind, past_eq k n l hn h, seq_lst, need_line n1, compW_map, trip_pat, compT_pure, filterMap_some', lawFlags, List.map_map]
  rfl
/-! ### the gate beside the reading -/
theorem past_ticks (k : Kd) (n : Int) (l : Log) : (pastG k n l).map (fun p => (p.1, p.2.1)) = l := by
  refine snoc_ind (P := fun l => (pastG k n l).map (fun p => (p.1, p.2.1)) = l) rfl (fun l p ih => ?_) l
  rw [pastG_snoc]
  unfold pastStep
  rw [List.map_append, ih]
  rfl
theorem past_up {k : Kd} {n : Int} {l : Log} (h : upPw l) : upP (pastG k n l) := by
  unfold upPw at h
  rw [← past_ticks k n l, List.pairwise_map] at h
  exact h
theorem upPw.pre {l r : Log} (h : upPw (l ++ r)) : upPw l := (List.pairwise_append.mp h).1
theorem past_inv {k : Kd} {n : Int} (hn : 1 ≤ n) (l : Log) : upPw l → InvG k n (pastG k n l) (stM k n l) ∧ flagsM k n l = lawFlags k n l := by
  refine snoc_ind (P := fun l => upPw l → InvG k n (pastG k n l) (stM k n l) ∧ flagsM k n l = lawFlags k n l) (fun _ => ⟨InvG.nil, rfl⟩) (fun l p ih hu => ?_) l
  obtain ⟨i1, i2⟩ := ih hu.pre
  obtain ⟨h1, h2⟩ := i1.step hn (past_up hu.pre) p.1 p.2
  refine ⟨?_, ?_⟩
  · rw [pastG_snoc]
    unfold stM
    rw [runM_snoc]
    exact h2
  · unfold flagsM lawFlags
    rw [runM_snoc, pastG_snoc]
    show (runM k n l).2.1 ++ [(recG k n (stM k n l) p.1 p.2).1] = (pastG k n l ++ [_]).map _
    rw [List.map_append, h1, show (runM k n l).2.1 = flagsM k n l from rfl, i2]
    rfl
theorem flags_law {k : Kd} {n : Int} (hn : 1 ≤ n) {l : Log} (h : upPw l) : flagsM k n l = lawFlags k n l := (past_inv hn l h).2
/-- what is known behind a log -/
theorem known_law {k : Kd} {n : Int} (hn : 1 ≤ n) {l : Log} (h : upPw l) (t : Int) : (knownG k n (stM k n l) t).Perm (memG k n (pastG k n l) t) := (past_inv hn l h).1.known (past_up h) t
def lawSizes (k : Kd) (n : Int) (l : Log) : List Int := l.zipIdx.map fun p => ((memG k n ((pastG k n l).take (p.2 + 1)) p.1.1).length : Int)
theorem past_take (k : Kd) (n : Int) (l r : Log) : (pastG k n (l ++ r)).take l.length = pastG k n l := by
  refine snoc_ind (P := fun r => (pastG k n (l ++ r)).take l.length = pastG k n l) ?_ (fun r p ih => ?_) r
  · rw [List.append_nil, List.take_of_length_le (by rw [pastG_len]; exact Nat.le_refl _)]
  · rw [← List.append_assoc, pastG_snoc]
    unfold pastStep
    rw [List.take_append_of_le_length (by rw [pastG_len, List.length_append]; omega), ih]
theorem sizes_law {k : Kd} {n : Int} (hn : 1 ≤ n) (l : Log) : upPw l → sizesM k n l = lawSizes k n l := by
  refine snoc_ind (P := fun l => upPw l → sizesM k n l = lawSizes k n l) (fun _ => rfl) (fun l p ih hu => ?_) l
  have ih' := ih hu.pre
  have hk := known_law (k := k) hn hu p.1
  unfold lawSizes
  rw [List.zipIdx_append, List.map_append]
  have e1 : l.zipIdx.map (fun q => ((memG k n ((pastG k n (l ++ [p])).take (q.2 + 1)) q.1.1).length : Int)) = lawSizes k n l := by
    unfold lawSizes
    refine List.map_congr_left fun q m => ?_
    have hq : q.2 + 1 ≤ l.length := by
      have := List.snd_lt_of_mem_zipIdx m
      omega
    have e : (pastG k n (l ++ [p])).take (q.2 + 1) = (pastG k n l).take (q.2 + 1) := by
      rw [← past_take k n l [p], List.take_take, Nat.min_eq_left hq]
    rw [e]
  rw [e1, ← ih']
  unfold sizesM
  rw [runM_snoc]
  show (runM k n l).2.2 ++ [_] = (runM k n l).2.2 ++ [_]
  congr 2
  have e2 : (pastG k n (l ++ [p])).take (l.length + 1) = pastG k n (l ++ [p]) := List.take_of_length_le (by rw [pastG_len]; simp)
  simp only [Nat.zero_add, e2]
  rw [← hk.length_eq]
  unfold stM
  rw [runM_snoc]
  rfl
theorem remembered_law {k : Kd} {n : Int} (hn : 1 ≤ n) {l : Log} (h : upPw l) : rememberedM k n l = match l.getLast? with | none => [] | some p => sortM (memG k n (pastG k n l) p.1) := by
  unfold rememberedM
  cases l.getLast? with
  | none => rfl
  | some p => exact sortM_eq (known_law hn h p.1)
end DG

/-! ## PH -/
set_option Elab.async false
set_option linter.all false
set_option maxRecDepth 100000
set_option maxHeartbeats 4000000
namespace DG
open PySem PySem.Spec PyProof.Rows L2
theorem cut_nat1 {α : Type} (xs : List α) (i : Nat) : cutL xs none (some ((i : Int) + 1)) = xs.take (i + 1) := by
  rw [show (i : Int) + 1 = ((i + 1 : Nat) : Int) by omega, cut_to]
theorem mem_names {k : Kd} {n : Int} {ps : Past} {t : Int} {x : Str} (hn : 1 ≤ n) (h : x ∈ memG k n ps t) : x ∈ ps.map (·.2.1) := by
  cases k with
  | last =>
    have := List.mem_of_mem_drop h
    unfold accNames at this
    obtain ⟨p, m, e⟩ := List.mem_map.mp this
    exact List.mem_map.mpr ⟨p, (List.mem_filter.mp m).1, e⟩
  | recent => exact lastNames_mem (by omega) h
  | hold =>
    obtain ⟨p, m, e, _⟩ := ((memG_time (k := .hold) rfl).2 x).mp h
    exact List.mem_map.mpr ⟨p, m, e⟩
  | renew =>
    obtain ⟨p, m, e, _⟩ := ((memG_time (k := .renew) rfl).2 x).mp h
    exact List.mem_map.mpr ⟨p, m, e⟩
theorem past_names (k : Kd) (n : Int) (l : Log) : (pastG k n l).map (·.2.1) = l.map (·.2) := by
  have h := congrArg (List.map Prod.snd) (past_ticks k n l)
  rw [List.map_map] at h
  exact h
theorem grow_len {A B : Type} {f : List A → B → List A} (hf : ∀ xs b, (f xs b).length ≤ xs.length + 1) : ∀ (bs : List B) (xs : List A), (bs.foldl f xs).length ≤ xs.length + bs.length
  | [], _ => Nat.le_refl _
  | b :: bs, xs => by
    have h1 := grow_len hf bs (f xs b)
    have h2 := hf xs b
    rw [List.foldl_cons, List.length_cons]
    omega
theorem mem_len {k : Kd} {n : Int} {ps : Past} {t : Int} : (memG k n ps t).length ≤ ps.length := by
  have h0 := grow_len (f := foundStep k n t) (fun _ _ => foundStep_len) ps []
  rw [List.length_nil, Nat.zero_add] at h0
  cases k with
  | last =>
    show (List.drop _ _).length ≤ _
    rw [List.length_drop]
    unfold accNames
    rw [List.length_map]
    have := List.length_filter_le (fun p : Int × Str × Bool => p.2.2) ps
    omega
  | recent =>
    have h := grow_len (f := fun f x => uniqStep f n x) (fun _ _ => uniqStep_len) (ps.map (·.2.1)).reverse []
    rw [List.length_reverse, List.length_map, List.length_nil, Nat.zero_add] at h
    exact h
  | hold => exact h0
  | renew => exact h0
theorem rem_names {k : Kd} {n : Int} {l : Log} (hn : 1 ≤ n) (hl : okLog l = true) : ∀ x ∈ rememberedM k n l, PyData.strOk x = true := fun x hx => by
  rw [remembered_law hn (okLog_up hl)] at hx
  cases hg : l.getLast? with
  | none => rw [hg] at hx; cases hx
  | some p =>
    rw [hg] at hx
    have h1 := mem_names hn ((sortM_perm _).mem_iff.mp hx)
    rw [past_names] at h1
    obtain ⟨q, m, e⟩ := List.mem_map.mp h1
    rw [← e]
    exact okLog_str hl q m
theorem rem_len {k : Kd} {n : Int} {l : Log} (hn : 1 ≤ n) (hu : upPw l) : (rememberedM k n l).length ≤ l.length := by
  rw [remembered_law hn hu]
  cases l.getLast? with
  | none => exact Nat.zero_le _
  | some p =>
    show (sortM _).length ≤ _
    rw [sortM_len]
    have h := mem_len (k := k) (n := n) (ps := pastG k n l) (t := p.1)
    rwa [pastG_len] at h
end DG

/-! ## PI -/
set_option Elab.async false
set_option linter.all false
set_option maxRecDepth 100000
set_option maxHeartbeats 4000000
namespace DG
open PySem PySem.Spec PyProof.Rows L2
/-! ### counts -/
theorem countP_true (bs : List Bool) : (bs.map D.bl).countP (fun z => z.eqv (.bl true)) = bs.count true := by
  rw [List.countP_map]
  show bs.countP _ = bs.countP _
  congr 1
@[simp] theorem count_true (bs : List Bool) : countD (bs.map D.bl) (.bl true) = pure (.int (bs.count true : Nat)) := by
  show need _ _ = _
  rw [need_of ⟨rfl, flat_blL bs⟩, countP_true]
/-- how many a gate accepts -/
def cntM (k : Kd) (n : Int) (l : Log) : Int := ((flagsM k n l).count true : Nat)
theorem rngL_map (lo : Int) (n : Nat) : rngL lo n = (List.range n).map fun i : Nat => D.int (lo + i) := rfl
/-- a comprehension over a range -/
theorem comp_rng {f : D → W (Option D)} {lo : Int} {n : Nat} {g : Int → D} (h : ∀ i : Nat, i < n → f (.int (lo + i)) = pure (some (g (lo + i)))) : compW (rngL lo n) f = pure ((List.range n).map fun i : Nat => g (lo + i)) := by
  rw [rngL_map, compW_map]
  exact compT_map fun i m => h i (List.mem_range.mp m)
theorem need_sizes_eq {k : Kd} {lo hi : Int} (h1 : 1 ≤ lo) (h2 : lo ≤ hi) (h3 : hi ≤ k.most) (h4 : hi ≤ lo + 100) : den_need_sizes [.str k.str, .int lo, .int hi] = pure .non := by
  show dn_need_sizes _ _ _ = _
  unfold dn_need_sizes
  have e1 : 1 ≤ lo ∧ lo ≤ k.most := ⟨h1, by omega⟩
  have e2 : lo ≤ hi ∧ hi ≤ min k.most (lo + 100) := ⟨h2, by omega⟩
  simp only [pure_bind, largest_eq, is_integer_eq, e1, e2, and_self, decide_true, boolD_bl, Bool.not_true, Bool.false_eq_true, if_false, add_int, min_int]
theorem accepted_counts_eq {k : Kd} {l : Log} {lo hi : Int} (hl : okLog l = true) (h1 : 1 ≤ lo) (h2 : lo ≤ hi) (h3 : hi ≤ k.most) (h4 : hi ≤ lo + 100) :
    den_accepted_counts [.str k.str, logD l, .int lo, .int hi] = pure (((List.range (hi + 1 - lo).toNat).map fun i : Nat => cntM k (lo + i) l).map D.int) := by
  show dn_accepted_counts _ _ _ _ = _
  unfold dn_accepted_counts
  have hm : k.most ≤ 1000000 := by cases k <;> decide
  have hr : rng2D [.int lo, .int (hi + 1)] = pure (rngL lo (hi + 1 - lo).toNat) := rng_int ⟨by omega, by omega, by omega, by omega⟩
  have n1 : (rngL lo (hi + 1 - lo).toNat).length ≤ 100000 := by rw [rng_len]; omega
  simp only [pure_bind, need_kind_eq, need_log_eq hl, need_sizes_eq h1 h2 h3 h4, add_int, hr, need_line n1]
  rw [comp_rng (g := fun n => .int (cntM k n l)) fun i hi' => ?_]
  · rw [List.map_map]
    rfl
  · have hr2 := run_eq k (lo + i) l (by omega) (okLog_len hl)
    unfold ruleD at hr2
    simp only [hr2, pure_bind, tup3, idxT0, lst_lst, count_true]
    rfl
/-! ### a search -/
theorem forX_find {α : Type} {f : D → Unit → W (Out Unit)} {e : α → D} {p : α → Bool} {v : α → D} : ∀ as : List α, (∀ a ∈ as, f (e a) () = pure (if p a = true then .rt (v a) else .nx ())) → forX (as.map e) () f = pure (match as.find? p with | some a => .rt (v a) | none => .nx ())
  | [], _ => rfl
  | a :: as, h => by
    show (f (e a) () >>= fun x => out2W (fun s' => forX (as.map e) s' f) x) = _
    rw [h a List.mem_cons_self, pure_bind, List.find?_cons]
    cases p a with
    | true => rfl
    | false => exact forX_find as fun b m => h b (List.mem_cons_of_mem _ m)
def optD (o : Option Int) : D := match o with
  | some i => .int i
  | none => .non
/-- where one more size accepts more -/
def anomM (c : Int → Int) : Option Int := ((List.range 59).map fun i : Nat => 1 + (i : Int)).find? fun n => decide (c n < c (n + 1))
theorem getElem_map_range {β : Type} (g : Nat → β) {n i : Nat} (h : i < n) : ((List.range n).map g)[i]? = some (g i) := by
  rw [List.getElem?_map, List.getElem?_range h]
  rfl
theorem first_anomaly_eq {l : Log} (hl : okLog l = true) : den_first_anomaly [logD l] = pure (optD (anomM fun n => cntM .last n l)) := by
  show dn_first_anomaly _ = _
  unfold dn_first_anomaly
  have hr : rng2D [.int 1, .int 61] = pure (rngL 1 60) := rng_int (by decide)
  have hr2 : rng2D [.int 1, .int 60] = pure (rngL 1 59) := rng_int (by decide)
  have n1 : (rngL 1 60).length ≤ 100000 := by rw [rng_len]; omega
  simp only [pure_bind, need_log_eq hl, hr, hr2, need_line n1]
  rw [comp_rng (g := fun n => .int (cntM .last n l)) fun i hi' => ?_]
  · simp only [pure_bind]
    rw [rngL_map]
    rw [show ((List.range 59).map fun i : Nat => D.int (1 + i)) = ((List.range 59).map fun i : Nat => 1 + (i : Int)).map D.int by rw [List.map_map]; rfl]
    refine step (forX_find (p := fun n => decide (cntM .last n l < cntM .last (n + 1) l)) (v := D.int) _ fun a m => ?_) ?_
    · obtain ⟨i, hi, rfl⟩ := List.mem_map.mp m
      have hi := List.mem_range.mp hi
      have e1 : idxD (.lst ((List.range 60).map fun i : Nat => D.int (cntM .last (1 + i) l))) (.int (1 + (i : Int))) = pure (.int (cntM .last (1 + i + 1) l)) := by
        rw [show (1 + (i : Int)) = ((i + 1 : Nat) : Int) by omega]
        refine idxL ?_
        rw [getElem_map_range _ (by omega)]
        congr 3
        omega
      have e2 : idxD (.lst ((List.range 60).map fun i : Nat => D.int (cntM .last (1 + i) l))) (.int (1 + (i : Int) - 1)) = pure (.int (cntM .last (1 + i) l)) := by
        rw [show (1 + (i : Int) - 1) = ((i : Nat) : Int) by omega]
        refine idxL ?_
        rw [getElem_map_range _ (by omega)]
      simp only [pure_bind, sub_int, e1, e2, gt_int, boolD_bl]
      by_cases h : cntM .last (1 + i) l < cntM .last (1 + i + 1) l <;> simp [h]
    · unfold anomM
      cases ((List.range 59).map fun i : Nat => 1 + (i : Int)).find? fun n => decide (cntM .last n l < cntM .last (n + 1) l) <;> rfl
  · have hr2 := run_eq .last (1 + i) l (by omega) (okLog_len hl)
    unfold ruleD at hr2
    have e : Kd.str .last = "last" := rfl
    rw [e] at hr2
    simp only [hr2, pure_bind, tup3, idxT0, lst_lst, count_true]
    rfl
end DG

/-! ## M2 -/
set_option Elab.async false
set_option linter.all false
set_option maxRecDepth 100000
set_option maxHeartbeats 4000000
/-! # distances, in plain lists -/
namespace DG
section
variable {α : Type} [DecidableEq α]
/-- start + 1, .., stop - 1 -/
def betw (s e : Nat) : List Nat := (List.range (e - (s + 1))).map fun i => s + 1 + i
theorem betw_mem {s e i : Nat} : i ∈ betw s e ↔ s < i ∧ i < e := by
  unfold betw
  rw [List.mem_map]
  constructor
  · rintro ⟨j, hj, rfl⟩
    have := List.mem_range.mp hj
    omega
  · rintro ⟨h1, h2⟩
    exact ⟨i - (s + 1), List.mem_range.mpr (by omega), by omega⟩
theorem range_split {j i : Nat} (h : j < i) : List.range i = List.range j ++ j :: betw j i := by
  have e : i = j + (1 + (i - (j + 1))) := by omega
  have h1 : List.range i = List.range j ++ (List.range (1 + (i - (j + 1)))).map (j + ·) := by
    conv => lhs; rw [e]
    rw [List.range_add]
  rw [h1]
  congr 1
  rw [Nat.add_comm 1, List.range_succ_eq_map, List.map_cons, List.map_map]
  unfold betw
  congr 1
  refine List.map_congr_left fun x _ => ?_
  show j + (x + 1) = j + 1 + x
  omega
def latJ (nm : Nat → α) (al : Nat → Bool) (i : Nat) : Option Nat := (List.range i).reverse.find? fun j => decide (nm j = nm i) && al j
def accA (fl : Nat → Bool) (s e : Nat) : List Nat := (betw s e).filter fl
/-- the first of each other name: (names, found) -/
def othStep (nm : Nat → α) (s : List α × List Nat) (i : Nat) : List α × List Nat := if nm i ∉ s.1 then (s.1 ++ [nm i], s.2 ++ [i]) else s
def othS (nm : Nat → α) (st : Nat) (is : List Nat) : List α × List Nat := is.foldl (othStep nm) ([nm st], [])
def othA (nm : Nat → α) (s e : Nat) : List Nat := (othS nm s (betw s e)).2
def dist (k : Kd) (nm : Nat → α) (tk : Nat → Int) (fl : Nat → Bool) (i : Nat) : Option Int :=
  (latJ nm (fun j => !k.acc || fl j) i).map fun j => match k with
    | .last => ((accA fl j i).length : Int)
    | .recent => ((othA nm j i).length : Int)
    | _ => tk i - tk j
theorem latJ_some {nm : Nat → α} {al : Nat → Bool} {i j : Nat} (h : latJ nm al i = some j) : j < i ∧ nm j = nm i ∧ al j = true ∧ ∀ m, j < m → m < i → nm m = nm i → al m = false := by
  unfold latJ at h
  rw [List.find?_eq_some_iff_append] at h
  obtain ⟨hp, as, bs, e, hn⟩ := h
  have hm : j ∈ (List.range i).reverse := by rw [e]; simp
  have hj : j < i := List.mem_range.mp (List.mem_reverse.mp hm)
  rw [Bool.and_eq_true, decide_eq_true_eq] at hp
  refine ⟨hj, hp.1, hp.2, fun m h1 h2 h3 => ?_⟩
  have e2 : (List.range i) = bs.reverse ++ j :: as.reverse := by
    have := congrArg List.reverse e
    rw [List.reverse_reverse] at this
    rw [this]
    simp
  have e3 : as.reverse = betw j i := by
    have h4 := range_split hj
    rw [h4] at e2
    have hnd : (List.range i).Nodup := List.nodup_range
    have hl : (List.range j).length = bs.reverse.length := by
      have a1 : (List.range j ++ j :: betw j i)[(List.range j).length]? = some j := by simp
      have a2 : (bs.reverse ++ j :: as.reverse)[bs.reverse.length]? = some j := by simp
      rw [← e2, ← h4] at a2
      rw [← h4] at a1
      have i1 : (List.range j).length < (List.range i).length := by simp; exact hj
      have i2 : bs.reverse.length < (List.range i).length := (List.getElem?_eq_some_iff.mp a2).1
      exact (List.getElem?_inj i1 hnd).mp (a1.trans a2.symm)
    have := (List.append_inj e2 hl).2
    injection this with _ h5
    exact h5.symm
  have hm2 : m ∈ as := by
    rw [← List.mem_reverse, e3]
    exact betw_mem.mpr ⟨h1, h2⟩
  have := hn m hm2
  simp [h3] at this
  exact this
theorem latJ_none {nm : Nat → α} {al : Nat → Bool} {i : Nat} (h : latJ nm al i = none) : ∀ m, m < i → nm m = nm i → al m = false := fun m h1 h2 => by
  unfold latJ at h
  rw [List.find?_eq_none] at h
  have := h m (List.mem_reverse.mpr (List.mem_range.mpr h1))
  simpa [h2] using this
theorem latJ_of {nm : Nat → α} {al : Nat → Bool} {i j : Nat} (h1 : j < i) (h2 : nm j = nm i) (h3 : al j = true) (h4 : ∀ m, j < m → m < i → nm m = nm i → al m = false) : latJ nm al i = some j := by
  cases h : latJ nm al i with
  | none => rw [latJ_none h j h1 h2] at h3; cases h3
  | some m =>
    obtain ⟨a1, a2, a3, a4⟩ := latJ_some h
    congr 1
    rcases Nat.lt_trichotomy m j with q | q | q
    · rw [a4 j q h1 h2] at h3; cases h3
    · exact q
    · rw [h4 m q a1 a2] at a3; cases a3
/-! ### the others -/
theorem oth_names (nm : Nat → α) : ∀ (is : List Nat) (s : List α × List Nat), s.1.length = s.2.length + 1 → s.1.Nodup →
    (is.foldl (othStep nm) s).1.length = (is.foldl (othStep nm) s).2.length + 1 ∧ (is.foldl (othStep nm) s).1.Nodup ∧ ∀ x, x ∈ (is.foldl (othStep nm) s).1 ↔ x ∈ s.1 ∨ x ∈ is.map nm
  | [], s, h, hn => ⟨h, hn, fun x => by simp⟩
  | i :: is, s, h, hn => by
    rw [List.foldl_cons]
    by_cases q : nm i ∈ s.1
    · rw [show othStep nm s i = s from if_neg (fun z => z q)]
      obtain ⟨a, b, c⟩ := oth_names nm is s h hn
      refine ⟨a, b, fun x => ?_⟩
      rw [c x, List.map_cons, List.mem_cons]
      constructor
      · rintro (m | m)
        · exact .inl m
        · exact .inr (.inr m)
      · rintro (m | m | m)
        · exact .inl m
        · exact .inl (m ▸ q)
        · exact .inr m
    · rw [show othStep nm s i = (s.1 ++ [nm i], s.2 ++ [i]) from if_pos q]
      have hn2 : (s.1 ++ [nm i]).Nodup := by
        rw [List.nodup_append]
        refine ⟨hn, by simp, fun a ha b hb e => ?_⟩
        simp at hb
        rw [hb] at e
        exact q (e ▸ ha)
      obtain ⟨a, b, c⟩ := oth_names nm is (s.1 ++ [nm i], s.2 ++ [i]) (by simp [h]) hn2
      refine ⟨a, b, fun x => ?_⟩
      rw [c x, List.map_cons, List.mem_cons]
      simp only [List.mem_append, List.mem_singleton]
      constructor
      · rintro ((m | m) | m)
        · exact .inl m
        · exact .inr (.inl m)
        · exact .inr (.inr m)
      · rintro (m | m | m)
        · exact .inl (.inl m)
        · exact .inl (.inr m)
        · exact .inr m
theorem othA_len {nm : Nat → α} {j i : Nat} (h : ∀ m, j < m → m < i → nm m ≠ nm j) : (othA nm j i).length = (uniq ((betw j i).map nm).reverse).length := by
  obtain ⟨a, b, c⟩ := oth_names nm (betw j i) ([nm j], []) rfl (by simp)
  have hp : ((othS nm j (betw j i)).1).Perm (nm j :: uniq ((betw j i).map nm).reverse) := by
    refine (List.perm_ext_iff_of_nodup b ?_).mpr fun x => ?_
    · rw [List.nodup_cons]
      refine ⟨fun z => ?_, uniq_nodup _⟩
      rw [uniq_mem, List.mem_reverse, List.mem_map] at z
      obtain ⟨m, hm, e⟩ := z
      have := betw_mem.mp hm
      exact h m this.1 this.2 e
    · rw [c x, List.mem_singleton, List.mem_cons, uniq_mem, List.mem_reverse]
  have := hp.length_eq
  rw [List.length_cons] at this
  unfold othA
  unfold othS at this ⊢
  omega
theorem uniq_app {P R : List α} {x : α} (h : x ∉ P) : ∃ T, uniq (P ++ x :: R) = uniq P ++ x :: T := by
  induction P with
  | nil => exact ⟨_, uniq_def x R⟩
  | cons y P ih =>
    have h1 : x ≠ y := fun e => h (e ▸ List.mem_cons_self)
    obtain ⟨T, e⟩ := ih fun m => h (List.mem_cons_of_mem _ m)
    refine ⟨T.filter fun z => z != y, ?_⟩
    rw [List.cons_append, uniq_def, e, List.filter_append, List.filter_cons_of_pos (by simp [h1]), uniq_def, List.cons_append]
/-! ### a gate's decision by the distance -/
def pastF (nm : Nat → α) (tk : Nat → Int) (fl : Nat → Bool) (i : Nat) : PastG α := (List.range i).map fun j => (tk j, nm j, fl j)
theorem mem_dist {k : Kd} {n : Int} (hn : 1 ≤ n) {nm : Nat → α} {tk : Nat → Int} {fl : Nat → Bool} {i : Nat} (hm : ∀ a b, a ≤ b → b ≤ i → tk a ≤ tk b) :
    nm i ∈ memG k n (pastF nm tk fl i) (tk i) ↔ ∃ d, dist k nm tk fl i = some d ∧ d < n := by
  have hacc : accNames (pastF nm tk fl i) = ((List.range i).filter fl).map nm := by
    unfold accNames pastF
    rw [List.filter_map, List.map_map]
    rfl
  have hnam : (pastF nm tk fl i).map (·.2.1) = (List.range i).map nm := by
    unfold pastF
    rw [List.map_map]
    rfl
  cases k with
  | last =>
    show nm i ∈ (accNames _).drop _ ↔ _
    rw [hacc]
    unfold dist
    cases hl : latJ nm (fun j => !Kd.acc .last || fl j) i with
    | none =>
      have hno := latJ_none hl
      constructor
      · intro h
        have h := List.mem_of_mem_drop h
        obtain ⟨m, hm', e⟩ := List.mem_map.mp h
        rw [List.mem_filter, List.mem_range] at hm'
        have := hno m hm'.1 e
        simp [Kd.acc] at this
        rw [hm'.2] at this
        cases this
      · rintro ⟨d, h, _⟩
        cases h
    | some j =>
      obtain ⟨h1, h2, h3, h4⟩ := latJ_some hl
      have h3' : fl j = true := by simpa [Kd.acc] using h3
      have hx : nm i ∉ (accA fl j i).map nm := fun z => by
        obtain ⟨m, hm', e⟩ := List.mem_map.mp z
        unfold accA at hm'
        rw [List.mem_filter] at hm'
        have hb := betw_mem.mp hm'.1
        have := h4 m hb.1 hb.2 e
        simp [Kd.acc] at this
        rw [hm'.2] at this
        cases this
      have e : ((List.range i).filter fl).map nm = ((List.range j).filter fl).map nm ++ nm i :: (accA fl j i).map nm := by
        rw [range_split h1, List.filter_append, List.filter_cons_of_pos h3', List.map_append, List.map_cons, h2]
        rfl
      rw [e]
      generalize ((List.range j).filter fl).map nm = U
      have hlen : ((accA fl j i).map nm).length = (accA fl j i).length := List.length_map _
      generalize hV : (accA fl j i).map nm = V at hx hlen
      have hL : (U ++ nm i :: V).length = U.length + 1 + V.length := by simp; omega
      rw [hL]
      constructor
      · intro h
        refine ⟨_, rfl, ?_⟩
        show ((accA fl j i).length : Int) < n
        rw [← hlen]
        by_cases q : (V.length : Int) < n
        · exact q
        · exfalso
          rw [List.drop_append, List.drop_of_length_le (by omega), List.nil_append] at h
          have e2 : U.length + 1 + V.length - n.toNat - U.length = (V.length - n.toNat) + 1 := by omega
          rw [e2, List.drop_succ_cons] at h
          exact hx (List.mem_of_mem_drop h)
      · rintro ⟨d, h, hd⟩
        cases h
        have hd' : (V.length : Int) < n := by rw [hlen]; exact hd
        rw [List.drop_append]
        refine List.mem_append_right _ ?_
        rw [show U.length + 1 + V.length - n.toNat - U.length = 0 by omega, List.drop_zero]
        exact List.mem_cons_self
  | recent =>
    show nm i ∈ lastNames _ n ↔ _
    rw [lastNames_eq _ _ (by omega), hnam]
    unfold dist
    cases hl : latJ nm (fun j => !Kd.acc .recent || fl j) i with
    | none =>
      have hno := latJ_none hl
      constructor
      · intro h
        have h := uniq_mem.mp (List.mem_of_mem_take h)
        rw [List.mem_reverse] at h
        obtain ⟨m, hm', e⟩ := List.mem_map.mp h
        have := hno m (List.mem_range.mp hm') e
        simp [Kd.acc] at this
      · rintro ⟨d, h, _⟩
        cases h
    | some j =>
      obtain ⟨h1, h2, h3, h4⟩ := latJ_some hl
      have h5 : ∀ m, j < m → m < i → nm m ≠ nm j := fun m a b e => by
        have := h4 m a b (e.trans h2)
        simp [Kd.acc] at this
      have hx : nm i ∉ ((betw j i).map nm).reverse := fun z => by
        rw [List.mem_reverse] at z
        obtain ⟨m, hm', e⟩ := List.mem_map.mp z
        have hb := betw_mem.mp hm'
        exact h5 m hb.1 hb.2 (e.trans h2.symm)
      have e : ((List.range i).map nm).reverse = ((betw j i).map nm).reverse ++ nm i :: ((List.range j).map nm).reverse := by
        rw [range_split h1, List.map_append, List.map_cons, List.reverse_append, List.reverse_cons, List.append_assoc, h2]
        rfl
      rw [e]
      obtain ⟨T, eT⟩ := uniq_app (R := ((List.range j).map nm).reverse) hx
      rw [eT]
      have hlen := othA_len h5
      have hx2 : nm i ∉ uniq ((betw j i).map nm).reverse := fun z => hx (uniq_mem.mp z)
      generalize hV : uniq ((betw j i).map nm).reverse = V at hlen hx2
      constructor
      · intro h
        refine ⟨_, rfl, ?_⟩
        show ((othA nm j i).length : Int) < n
        rw [hlen]
        by_cases q : (V.length : Int) < n
        · exact q
        · exfalso
          rw [List.take_append_of_le_length (by omega)] at h
          exact hx2 (List.mem_of_mem_take h)
      · rintro ⟨d, h, hd⟩
        cases h
        have hd' : (V.length : Int) < n := by rw [← hlen]; exact hd
        have e2 : n.toNat = V.length + ((n.toNat - V.length - 1) + 1) := by omega
        rw [List.take_append, e2]
        refine List.mem_append_right _ ?_
        rw [Nat.add_sub_cancel_left, List.take_succ_cons]
        exact List.mem_cons_self
  | hold =>
    rw [(memG_time (k := .hold) rfl).2]
    unfold dist
    cases hl : latJ nm (fun j => !Kd.acc .hold || fl j) i with
    | none =>
      have hno := latJ_none hl
      constructor
      · rintro ⟨p, m, e, _, ha⟩
        unfold pastF at m
        obtain ⟨j, hj, rfl⟩ := List.mem_map.mp m
        have := hno j (List.mem_range.mp hj) e
        simp [Kd.acc] at this
        rcases ha with ha | ha
        · rw [show fl j = true from ha] at this; cases this
        · cases ha
      · rintro ⟨d, h, _⟩
        cases h
    | some j =>
      obtain ⟨h1, h2, h3, h4⟩ := latJ_some hl
      have h3' : fl j = true := by simpa [Kd.acc] using h3
      constructor
      · rintro ⟨p, m, e, hlt, ha⟩
        unfold pastF at m
        obtain ⟨q, hq, rfl⟩ := List.mem_map.mp m
        have hq := List.mem_range.mp hq
        have hle : q ≤ j := by
          by_cases z : q ≤ j
          · exact z
          · have := h4 q (by omega) hq e
            simp [Kd.acc] at this
            rcases ha with ha | ha
            · rw [show fl q = true from ha] at this; cases this
            · cases ha
        refine ⟨_, rfl, ?_⟩
        show tk i - tk j < n
        have := hm q j hle (by omega)
        have : tk i - tk q < n := hlt
        omega
      · rintro ⟨d, h, hd⟩
        cases h
        refine ⟨(tk j, nm j, fl j), List.mem_map.mpr ⟨j, List.mem_range.mpr h1, rfl⟩, h2, hd, .inl h3'⟩
  | renew =>
    rw [(memG_time (k := .renew) rfl).2]
    unfold dist
    cases hl : latJ nm (fun j => !Kd.acc .renew || fl j) i with
    | none =>
      have hno := latJ_none hl
      constructor
      · rintro ⟨p, m, e, _, ha⟩
        unfold pastF at m
        obtain ⟨j, hj, rfl⟩ := List.mem_map.mp m
        have := hno j (List.mem_range.mp hj) e
        simp [Kd.acc] at this
      · rintro ⟨d, h, _⟩
        cases h
    | some j =>
      obtain ⟨h1, h2, h3, h4⟩ := latJ_some hl
      constructor
      · rintro ⟨p, m, e, hlt, ha⟩
        unfold pastF at m
        obtain ⟨q, hq, rfl⟩ := List.mem_map.mp m
        have hq := List.mem_range.mp hq
        have hle : q ≤ j := by
          by_cases z : q ≤ j
          · exact z
          · have := h4 q (by omega) hq e
            simp [Kd.acc] at this
        refine ⟨_, rfl, ?_⟩
        show tk i - tk j < n
        have := hm q j hle (by omega)
        have : tk i - tk q < n := hlt
        omega
      · rintro ⟨d, h, hd⟩
        cases h
        refine ⟨(tk j, nm j, fl j), List.mem_map.mpr ⟨j, List.mem_range.mpr h1, rfl⟩, h2, hd, .inr rfl⟩
end
end DG

/-! ## M3 -/
set_option Elab.async false
set_option linter.all false
set_option maxRecDepth 100000
set_option maxHeartbeats 4000000
/-! # which sizes fit recorded decisions -/
namespace DG
section
variable {α : Type} [DecidableEq α]
theorem find_congr {β : Type} {p q : β → Bool} : ∀ {xs : List β}, (∀ x ∈ xs, p x = q x) → xs.find? p = xs.find? q
  | [], _ => rfl
  | x :: xs, h => by
    rw [List.find?_cons, List.find?_cons, h x List.mem_cons_self, find_congr fun y m => h y (List.mem_cons_of_mem _ m)]
theorem latJ_congr {nm : Nat → α} {al al' : Nat → Bool} {i : Nat} (h : ∀ j, j < i → al j = al' j) : latJ nm al i = latJ nm al' i := by
  unfold latJ
  refine find_congr fun j m => ?_
  rw [h j (List.mem_range.mp (List.mem_reverse.mp m))]
theorem dist_congr {k : Kd} {nm : Nat → α} {tk : Nat → Int} {fl fl' : Nat → Bool} {i : Nat} (h : ∀ j, j < i → fl j = fl' j) : dist k nm tk fl i = dist k nm tk fl' i := by
  unfold dist
  rw [latJ_congr (al := fun j => !k.acc || fl j) (al' := fun j => !k.acc || fl' j) fun j hj => by rw [h j hj]]
  cases hl : latJ nm (fun j => !k.acc || fl' j) i with
  | none => rfl
  | some j =>
    cases k with
    | last =>
      show some ((accA fl j i).length : Int) = some ((accA fl' j i).length : Int)
      congr 3
      unfold accA
      exact List.filter_congr fun m hm => h m (betw_mem.mp hm).2
    | recent => rfl
    | hold => rfl
    | renew => rfl
/-- the decision at i is the one of size n -/
def okAt (k : Kd) (n : Int) (nm : Nat → α) (tk : Nat → Int) (fl : Nat → Bool) (i : Nat) : Prop := fl i = match dist k nm tk fl i with
  | none => true
  | some d => decide (n ≤ d)
/-- fl is a run of size n over m messages -/
def Runs (k : Kd) (n : Int) (nm : Nat → α) (tk : Nat → Int) (m : Nat) (fl : Nat → Bool) : Prop := ∀ i, i < m → okAt k n nm tk fl i
theorem Runs.uniq {k : Kd} {n : Int} {nm : Nat → α} {tk : Nat → Int} {m : Nat} {fl fl' : Nat → Bool} (h : Runs k n nm tk m fl) (h' : Runs k n nm tk m fl') : ∀ i, i < m → fl i = fl' i := fun i => by
  induction i using Nat.strongRecOn with
  | ind i ih =>
    intro hi
    have e := dist_congr (k := k) (nm := nm) (tk := tk) (i := i) fun j hj => ih j hj (Nat.lt_trans hj hi)
    have h1 := h i hi
    have h2 := h' i hi
    unfold okAt at h1 h2
    rw [h1, h2, e]
theorem Runs.pre {k : Kd} {n : Int} {nm : Nat → α} {tk : Nat → Int} {m m' : Nat} {fl : Nat → Bool} (h : Runs k n nm tk m fl) (l : m' ≤ m) : Runs k n nm tk m' fl := fun i hi => h i (Nat.lt_of_lt_of_le hi l)
/-- the bounds that the decisions up to m set -/
def lowS (k : Kd) (nm : Nat → α) (tk : Nat → Int) (fl : Nat → Bool) : Nat → Int
  | 0 => 1
  | i + 1 => match dist k nm tk fl i with
    | some d => if fl i = true then lowS k nm tk fl i else max (lowS k nm tk fl i) (d + 1)
    | none => lowS k nm tk fl i
def highS (k : Kd) (nm : Nat → α) (tk : Nat → Int) (fl : Nat → Bool) (top : Int) : Nat → Int
  | 0 => top
  | i + 1 => match dist k nm tk fl i with
    | some d => if fl i = true then min (highS k nm tk fl top i) d else highS k nm tk fl top i
    | none => highS k nm tk fl top i
/-- no first copy is suppressed -/
def firstOk (k : Kd) (nm : Nat → α) (tk : Nat → Int) (fl : Nat → Bool) (m : Nat) : Prop := ∀ i, i < m → dist k nm tk fl i = none → fl i = true
theorem runs_bounds {k : Kd} {n top : Int} {nm : Nat → α} {tk : Nat → Int} {fl : Nat → Bool} (h1 : 1 ≤ n) (h2 : n ≤ top) : ∀ m, Runs k n nm tk m fl ↔ firstOk k nm tk fl m ∧ lowS k nm tk fl m ≤ n ∧ n ≤ highS k nm tk fl top m
  | 0 => ⟨fun _ => ⟨fun i hi => absurd hi (Nat.not_lt_zero i), h1, h2⟩, fun _ i hi => absurd hi (Nat.not_lt_zero i)⟩
  | m + 1 => by
    have ih := runs_bounds (k := k) (nm := nm) (tk := tk) (fl := fl) h1 h2 m
    have s1 : Runs k n nm tk (m + 1) fl ↔ Runs k n nm tk m fl ∧ okAt k n nm tk fl m := by
      constructor
      · exact fun h => ⟨h.pre (Nat.le_succ m), h m (Nat.lt_succ_self m)⟩
      · rintro ⟨a, b⟩ i hi
        rcases Nat.lt_or_eq_of_le (Nat.le_of_lt_succ hi) with q | q
        · exact a i q
        · rw [q]; exact b
    have s2 : firstOk k nm tk fl (m + 1) ↔ firstOk k nm tk fl m ∧ (dist k nm tk fl m = none → fl m = true) := by
      constructor
      · exact fun h => ⟨fun i hi => h i (Nat.lt_succ_of_lt hi), h m (Nat.lt_succ_self m)⟩
      · rintro ⟨a, b⟩ i hi
        rcases Nat.lt_or_eq_of_le (Nat.le_of_lt_succ hi) with q | q
        · exact a i q
        · rw [q]; exact b
    rw [s1, s2, ih]
    unfold okAt
    show _ ↔ _ ∧ (match dist k nm tk fl m with
      | some d => if fl m = true then lowS k nm tk fl m else max (lowS k nm tk fl m) (d + 1)
      | none => lowS k nm tk fl m) ≤ n ∧ n ≤ (match dist k nm tk fl m with
      | some d => if fl m = true then min (highS k nm tk fl top m) d else highS k nm tk fl top m
      | none => highS k nm tk fl top m)
    cases hd : dist k nm tk fl m with
    | none =>
      simp only
      constructor
      · rintro ⟨⟨a, b, c⟩, e⟩
        exact ⟨⟨a, fun _ => e⟩, b, c⟩
      · rintro ⟨⟨a, e⟩, b, c⟩
        exact ⟨⟨a, b, c⟩, by simpa using e⟩
    | some d =>
      simp only [reduceCtorEq, false_implies, and_true]
      cases hf : fl m with
      | true =>
        simp only [if_true]
        constructor
        · rintro ⟨⟨a, b, c⟩, e⟩
          have : n ≤ d := of_decide_eq_true e.symm
          exact ⟨a, b, by omega⟩
        · rintro ⟨a, b, c⟩
          exact ⟨⟨a, b, by omega⟩, (decide_eq_true (show n ≤ d by omega)).symm⟩
      | false =>
        simp only [Bool.false_eq_true, if_false]
        constructor
        · rintro ⟨⟨a, b, c⟩, e⟩
          have : ¬ n ≤ d := of_decide_eq_false e.symm
          exact ⟨a, by omega, c⟩
        · rintro ⟨a, b, c⟩
          exact ⟨⟨a, by omega, c⟩, (decide_eq_false (show ¬ n ≤ d by omega)).symm⟩
theorem lowS_ge {k : Kd} {nm : Nat → α} {tk : Nat → Int} {fl : Nat → Bool} : ∀ m, 1 ≤ lowS k nm tk fl m
  | 0 => Int.le_refl _
  | m + 1 => by
    have ih := lowS_ge (k := k) (nm := nm) (tk := tk) (fl := fl) m
    show 1 ≤ (match dist k nm tk fl m with
      | some d => if fl m = true then lowS k nm tk fl m else max (lowS k nm tk fl m) (d + 1)
      | none => lowS k nm tk fl m)
    split
    · split
      · exact ih
      · exact Int.le_trans ih (Int.le_max_left _ _)
    · exact ih
theorem highS_le {k : Kd} {nm : Nat → α} {tk : Nat → Int} {fl : Nat → Bool} {top : Int} : ∀ m, highS k nm tk fl top m ≤ top
  | 0 => Int.le_refl _
  | m + 1 => by
    have ih := highS_le (k := k) (nm := nm) (tk := tk) (fl := fl) (top := top) m
    show (match dist k nm tk fl m with
      | some d => if fl m = true then min (highS k nm tk fl top m) d else highS k nm tk fl top m
      | none => highS k nm tk fl top m) ≤ top
    split
    · split
      · exact Int.le_trans (Int.min_le_left _ _) ih
      · exact ih
    · exact ih
theorem lowS_mono {k : Kd} {nm : Nat → α} {tk : Nat → Int} {fl : Nat → Bool} {m : Nat} : ∀ j, lowS k nm tk fl m ≤ lowS k nm tk fl (m + j)
  | 0 => Int.le_refl _
  | j + 1 => by
    have ih := lowS_mono (k := k) (nm := nm) (tk := tk) (fl := fl) (m := m) j
    refine Int.le_trans ih ?_
    show _ ≤ (match dist k nm tk fl (m + j) with
      | some d => if fl (m + j) = true then lowS k nm tk fl (m + j) else max (lowS k nm tk fl (m + j)) (d + 1)
      | none => lowS k nm tk fl (m + j))
    split
    · split
      · exact Int.le_refl _
      · exact Int.le_max_left _ _
    · exact Int.le_refl _
theorem highS_mono {k : Kd} {nm : Nat → α} {tk : Nat → Int} {fl : Nat → Bool} {top : Int} {m : Nat} : ∀ j, highS k nm tk fl top (m + j) ≤ highS k nm tk fl top m
  | 0 => Int.le_refl _
  | j + 1 => by
    have ih := highS_mono (k := k) (nm := nm) (tk := tk) (fl := fl) (top := top) (m := m) j
    refine Int.le_trans ?_ ih
    show (match dist k nm tk fl (m + j) with
      | some d => if fl (m + j) = true then min (highS k nm tk fl top (m + j)) d else highS k nm tk fl top (m + j)
      | none => highS k nm tk fl top (m + j)) ≤ _
    split
    · split
      · exact Int.min_le_left _ _
      · exact Int.le_refl _
    · exact Int.le_refl _
theorem bounds_congr {k : Kd} {nm : Nat → α} {tk : Nat → Int} {fl fl' : Nat → Bool} {top : Int} : ∀ m, (∀ i, i < m → fl i = fl' i) → lowS k nm tk fl m = lowS k nm tk fl' m ∧ highS k nm tk fl top m = highS k nm tk fl' top m
  | 0, _ => ⟨rfl, rfl⟩
  | m + 1, h => by
    obtain ⟨a, b⟩ := bounds_congr (k := k) (nm := nm) (tk := tk) (top := top) m fun i hi => h i (Nat.lt_succ_of_lt hi)
    have e := dist_congr (k := k) (nm := nm) (tk := tk) (i := m) fun j hj => h j (Nat.lt_succ_of_lt hj)
    have f := h m (Nat.lt_succ_self m)
    unfold lowS highS
    rw [e, f, a, b]
    exact ⟨rfl, rfl⟩
end
end DG

/-! ## PJ -/
set_option Elab.async false
set_option linter.all false
set_option maxRecDepth 100000
set_option maxHeartbeats 4000000
namespace DG
open PySem PySem.Spec PyProof.Rows L2
/-! ### a log by its places -/
def atL (l : Log) (i : Nat) : Int × Str := l.getD i (0, "")
def nmL (l : Log) (i : Nat) : Str := (atL l i).2
def tkL (l : Log) (i : Nat) : Int := (atL l i).1
def flL (fs : List Bool) (i : Nat) : Bool := fs.getD i false
theorem get_getD {β : Type} {xs : List β} {i : Nat} (d : β) (h : i < xs.length) : xs[i]? = some (xs.getD i d) := by
  rw [List.getD_eq_getElem?_getD, List.getElem?_eq_getElem h]
  rfl
theorem log_at {l : Log} {i : Nat} (h : i < l.length) : idxD (logD l) (.int i) = pure (msgD (atL l i)) := log_idx (get_getD _ h)
theorem at_mem {l : Log} {i : Nat} (h : i < l.length) : atL l i ∈ l := by
  have := get_getD (0, ("" : Str)) h
  exact List.mem_of_getElem? this
theorem nm_ok {l : Log} (hl : okLog l = true) {i : Nat} (h : i < l.length) : PyData.strOk (nmL l i) = true := okLog_str hl _ (at_mem h)
theorem tk_mono {l : Log} (hu : upPw l) {a b : Nat} (h : a ≤ b) (hb : b < l.length) : tkL l a ≤ tkL l b := by
  rcases Nat.lt_or_eq_of_le h with q | q
  · have e1 := get_getD (0, ("" : Str)) (show a < l.length by omega)
    have e2 := get_getD (0, ("" : Str)) hb
    have := List.pairwise_iff_getElem.mp hu a b (by omega) hb q
    unfold tkL atL
    rw [List.getElem?_eq_getElem (by omega)] at e1 e2
    rw [← Option.some.inj e1, ← Option.some.inj e2]
    exact this
  · rw [q]
    exact Int.le_refl _
theorem idx_lstB {fs : List Bool} {j : Nat} (h : j < fs.length) : idxD (.lst (fs.map D.bl)) (.int j) = pure (.bl (flL fs j)) := idxLm D.bl (get_getD _ h)
theorem idx_tupB {fs : List Bool} {j : Nat} (h : j < fs.length) : idxD (.tup (fs.map D.bl)) (.int j) = pure (.bl (flL fs j)) := idxTm D.bl (get_getD _ h)
theorem trues_eq (n : Nat) : (List.replicate n [D.bl true]).flatten = (List.replicate n true).map D.bl := by
  rw [List.map_replicate]
  induction n with
  | zero => rfl
  | succ n ih => rw [List.replicate_succ, List.flatten_cons, ih, List.replicate_succ]; rfl
theorem mul_true {n : Nat} (h : n ≤ 100000) : mulD (.lst [.bl true]) (.int n) = pure (.lst ((List.replicate n true).map D.bl)) := by
  rw [← trues_eq]
  have h1 : [D.bl true].length * (n : Int).toNat ≤ line := by
    show 1 * (n : Int).toNat ≤ 1000000
    omega
  exact need_of ⟨by omega, by omega, h1⟩
theorem idx_true {n j : Nat} (h : j < n) : idxD (.lst ((List.replicate n true).map D.bl)) (.int j) = pure (.bl true) := idxLm D.bl (by rw [List.getElem?_replicate, if_pos h])
/-! ### the latest copy -/
def optN (o : Option Nat) : D := match o with
  | some j => .int j
  | none => .non
theorem down_eq (i : Nat) : rngC ((i : Int) - 1) (-1) i = (List.range i).reverse.map fun j : Nat => D.int j := by
  unfold rngC
  apply List.ext_getElem?
  intro t
  rw [List.getElem?_map, List.getElem?_map]
  by_cases h : t < i
  · rw [List.getElem?_range h, List.getElem?_reverse (by rw [List.length_range]; exact h), List.length_range, List.getElem?_range (by omega)]
    show some (D.int ((i : Int) - 1 + t * -1)) = some (D.int ((i - 1 - t : Nat) : Int))
    congr 2
    omega
  · rw [List.getElem?_eq_none (by rw [List.length_range]; omega), List.getElem?_eq_none (by rw [List.length_reverse, List.length_range]; omega)]
    rfl
theorem latest_copy_eq {l : Log} (hl : okLog l = true) {al : D} {f : Nat → Bool} {i : Nat} (hi : i < l.length) (ha : ∀ j, j < i → idxD al (.int j) = pure (.bl (f j))) : den_latest_copy [logD l, .int i, al] = pure (optN (latJ (nmL l) f i)) := by
  show dn_latest_copy _ _ _ = _
  unfold dn_latest_copy
  have h60 := okLog_len hl
  have hr : rngDown [.int ((i : Int) - 1), .int (-1), .int (-1)] = pure (rngC ((i : Int) - 1) (-1) i) := by
    refine (need_of ⟨rfl, rfl, by omega, by omega⟩).trans ?_
    rw [show ((i : Int) - 1 + 1).toNat = i by omega]
  simp only [pure_bind, sub_int, neg_int, hr, down_eq]
  refine step (forX_find (p := fun j => decide (nmL l j = nmL l i) && f j) (v := fun j : Nat => D.int j) _ fun j m => ?_) ?_
  · have hj : j < i := List.mem_range.mp (List.mem_reverse.mp m)
    have hj2 : j < l.length := by omega
    have he := eq_str (nm_ok hl hj2) (nm_ok hl hi)
    unfold nmL at he ⊢
    simp only [pure_bind, log_at hj2, log_at hi, msg_1, he, boolD_bl, ha j hj, ite_pure]
    by_cases h : (atL l j).2 = (atL l i).2
    · cases f j <;> simp [h]
    · simp [h]
  · unfold latJ
    cases (List.range i).reverse.find? fun j => decide (nmL l j = nmL l i) && f j <;> rfl
theorem rng_betw {s e : Nat} (h : s < e) : rngL ((s : Int) + 1) ((e : Int) - ((s : Int) + 1)).toNat = (betw s e).map fun j : Nat => D.int j := by
  unfold rngL betw
  rw [List.map_map, show ((e : Int) - ((s : Int) + 1)).toNat = e - (s + 1) by omega]
  refine List.map_congr_left fun t _ => ?_
  show D.int ((s : Int) + 1 + t) = D.int ((s + 1 + t : Nat) : Int)
  congr 1
theorem betw_len (s e : Nat) : (betw s e).length = e - (s + 1) := by
  unfold betw
  rw [List.length_map, List.length_range]
theorem othS_len (nm : Nat → Str) (st : Nat) (is : List Nat) : (othS nm st is).1.length ≤ is.length + 1 ∧ (othS nm st is).2.length ≤ is.length := by
  have : ∀ (is : List Nat) (s : List Str × List Nat), (is.foldl (othStep nm) s).1.length ≤ s.1.length + is.length ∧ (is.foldl (othStep nm) s).2.length ≤ s.2.length + is.length := fun is => by
    induction is with
    | nil => exact fun s => ⟨Nat.le_refl _, Nat.le_refl _⟩
    | cons i is ih =>
      intro s
      rw [List.foldl_cons, List.length_cons]
      obtain ⟨a, b⟩ := ih (othStep nm s i)
      have c : (othStep nm s i).1.length ≤ s.1.length + 1 ∧ (othStep nm s i).2.length ≤ s.2.length + 1 := by
        unfold othStep
        split <;> simp
      omega
  obtain ⟨a, b⟩ := this is ([nm st], [])
  simp only [List.length_cons, List.length_nil] at a b
  unfold othS
  omega
theorem others_after_eq {l : Log} (hl : l.length ≤ 1000) {s e : Nat} (hs : s < e) (he : e ≤ l.length) : den_others_after [logD l, .int s, .int e] = pure ((othA (nmL l) s e).map fun j : Nat => D.int j) := by
  show dn_others_after _ _ _ = _
  unfold dn_others_after
  have hr : rng2D [.int ((s : Int) + 1), .int e] = pure (rngL ((s : Int) + 1) ((e : Int) - ((s : Int) + 1)).toNat) := rng_int ⟨by omega, by omega, by omega, by omega⟩
  simp only [pure_bind, log_at (show s < l.length by omega), msg_1, add_int, hr, rng_betw hs]
  refine step (for_pre (fun j : Nat => D.int j) (fun pre => ((othS (nmL l) s pre).1.map D.str, (othS (nmL l) s pre).2.map fun j : Nat => D.int j)) (betw s e) fun pre j post eq => ?_) rfl
  have hj : j ∈ betw s e := by rw [eq]; simp
  have hb := betw_mem.mp hj
  have hp : pre.length ≤ 1000 := by
    have := congrArg List.length eq
    rw [betw_len, List.length_append] at this
    omega
  have hn := othS_len (nmL l) s pre
  have hsn : othS (nmL l) s (pre ++ [j]) = othStep (nmL l) (othS (nmL l) s pre) j := by
    unfold othS
    rw [List.foldl_append]
    rfl
  rw [hsn]
  simp only [pure_bind, log_at (show j < l.length by omega), msg_1, notIn_strL, boolD_bl, List.length_map, need_lt (show (othS (nmL l) s pre).1.length ≤ 100000 by omega), need_lt (show (othS (nmL l) s pre).2.length ≤ 100000 by omega)]
  unfold othStep
  by_cases h : nmL l j ∈ (othS (nmL l) s pre).1
  · have h2 : (atL l j).2 ∈ (othS (nmL l) s pre).1 := h
    simp [h, h2]
  · have h2 : (atL l j).2 ∉ (othS (nmL l) s pre).1 := h
    simp [h, h2]
    rfl
theorem accepted_after_eq {fl : D} {f : Nat → Bool} {s e : Nat} (hs : s < e) (he : e ≤ 1000) (hf : ∀ j, j < e → idxD fl (.int j) = pure (.bl (f j))) : den_accepted_after [fl, .int s, .int e] = pure ((accA f s e).map fun j : Nat => D.int j) := by
  show dn_accepted_after _ _ _ = _
  unfold dn_accepted_after
  have hr : rng2D [.int ((s : Int) + 1), .int e] = pure (rngL ((s : Int) + 1) ((e : Int) - ((s : Int) + 1)).toNat) := rng_int ⟨by omega, by omega, by omega, by omega⟩
  have n1 : ((betw s e).map fun j : Nat => D.int j).length ≤ 100000 := by rw [List.length_map, betw_len]; omega
  simp only [pure_bind, add_int, hr, rng_betw hs, need_line n1, compW_map]
  refine compT_filter fun j m => ?_
  have hb := betw_mem.mp m
  simp only [pure_bind, hf j hb.2, boolD_bl, ite_pure]
theorem dist_eq {k : Kd} {l : Log} (hl : okLog l = true) {fl : D} {f : Nat → Bool} {i : Nat} (hi : i < l.length) (hf : ∀ j, j < i → idxD fl (.int j) = pure (.bl (f j))) :
    den_distance [.str k.str, logD l, fl, .int i] = pure (optD (dist k (nmL l) (tkL l) f i)) := by
  show dn_distance _ _ _ _ = _
  unfold dn_distance
  have h60 := okLog_len hl
  have hk := kd_rr k
  have hal : ∀ j, j < i → idxD (if (!k.acc) = true then .lst ((List.replicate l.length true).map D.bl) else fl) (.int j) = pure (.bl (!k.acc || f j)) := fun j hj => by
    cases k.acc with
    | true => exact hf j hj
    | false => exact idx_true (by omega)
  have hlc := latest_copy_eq hl hi hal
  simp only [pure_bind, in_T2, hk, boolD_bl, log_len, mul_true (show l.length ≤ 100000 by omega), ite_pure, hlc]
  unfold dist
  cases hj : latJ (nmL l) (fun j => !k.acc || f j) i with
  | none => rfl
  | some j =>
    have hji := (latJ_some hj).1
    have e1 := accepted_after_eq hji (show i ≤ 1000 by omega) hf
    have e2 := others_after_eq (l := l) (by omega) hji (show i ≤ l.length by omega)
    have e3 : idxD (logD l) (.int j) = pure (msgD (atL l j)) := log_at (by omega)
    simp only [optN, isD_non, isNon_int, boolD_bl, pure_bind, Bool.false_eq_true, if_false, eq_last, eq_recent, e1, e2, e3, len_lst, List.length_map, log_at hi, msg_0, sub_int]
    cases k <;> rfl
theorem all_thresholds_eq {k : Kd} (hk : k.acc = false) {l : Log} (hl : okLog l = true) : den_all_thresholds [.str k.str, logD l] = pure ((List.range l.length).map fun i => optD ((dist k (nmL l) (tkL l) (fun _ => true) i).map (1 + ·))) := by
  show dn_all_thresholds _ _ = _
  unfold dn_all_thresholds
  have h60 := okLog_len hl
  simp only [pure_bind, log_len, mul_true (show l.length ≤ 100000 by omega), log_enum, enumL_map, bind_pure]
  refine (for_pre (fun p : (Int × Str) × Nat => D.pr [.int p.2, msgD p.1]) (fun pre => (List.range pre.length).map fun i => optD ((dist k (nmL l) (tkL l) (fun _ => true) i).map (1 + ·))) l.zipIdx fun pre p post e => ?_).trans (by rw [List.length_zipIdx])
  obtain ⟨e1, e2, e3⟩ := zipIdx_split e
  have hat : atL l pre.length = p.1 := by
    unfold atL
    rw [List.getD_eq_getElem?_getD, e2]
    rfl
  have hlc := latest_copy_eq hl e3 (al := .lst ((List.replicate l.length true).map D.bl)) (f := fun _ => true) fun j hj => idx_true (by omega)
  rw [List.length_append, List.length_singleton, List.range_succ, List.map_append]
  simp only [pat2P, pure_bind, e1, hlc, List.length_map, List.length_range, need_lt (show pre.length ≤ 100000 by omega)]
  unfold dist
  have hal : (fun j : Nat => !k.acc || true) = fun _ => true := by funext j; rw [hk]; rfl
  rw [hal]
  cases hj : latJ (nmL l) (fun _ => true) pre.length with
  | none =>
    simp only [optN, isD_non, isNon_non, boolD_bl, pure_bind, if_true, List.map_cons, List.map_nil, hj]
    rfl
  | some j =>
    have hji := (latJ_some hj).1
    have f2 := others_after_eq (l := l) (by omega) hji (show pre.length ≤ l.length by omega)
    have f3 : idxD (logD l) (.int j) = pure (msgD (atL l j)) := log_at (by omega)
    simp only [optN, isD_non, isNon_int, boolD_bl, pure_bind, Bool.false_eq_true, if_false, eq_recent, f2, f3, len_lst, List.length_map, msg_0, sub_int, add_int]
    have htk : tkL l pre.length = p.1.1 := by unfold tkL; rw [hat]
    cases k with
    | last => cases hk
    | hold => cases hk
    | recent =>
      simp only [decide_true, if_true, List.map_cons, List.map_nil, hj, Option.map_some]
      rfl
    | renew =>
      simp only [reduceCtorEq, decide_false, Bool.false_eq_true, if_false, List.map_cons, List.map_nil, hj, Option.map_some]
      rw [htk]
      show pure (_ ++ [D.int (1 + p.1.1 - tkL l j)]) = pure (_ ++ [D.int (1 + (p.1.1 - tkL l j))])
      rw [show 1 + p.1.1 - tkL l j = 1 + (p.1.1 - tkL l j) by omega]
theorem thresholds_eq {k : Kd} (hk : k.acc = false) {l : Log} (hl : okLog l = true) : den_thresholds [.str k.str, logD l] = pure ((List.range l.length).map fun i => optD ((dist k (nmL l) (tkL l) (fun _ => true) i).map (1 + ·))) := by
  show dn_thresholds _ _ = _
  unfold dn_thresholds
  simp only [pure_bind, need_kind_rr hk, need_log_eq hl, all_thresholds_eq hk hl]
end DG

/-! ## M4 -/
set_option Elab.async false
set_option linter.all false
set_option maxRecDepth 100000
set_option maxHeartbeats 4000000
/-! # comparisons of sizes, of logs -/
namespace DG
section
variable {α : Type} [DecidableEq α]
/-! ### how many of each name -/
theorem sum_le_sum {β : Type} {f g : β → Nat} : ∀ {U : List β}, (∀ x ∈ U, f x ≤ g x) → (U.map f).sum ≤ (U.map g).sum
  | [], _ => Nat.le_refl _
  | x :: U, h => by
    rw [List.map_cons, List.map_cons, List.sum_cons, List.sum_cons]
    exact Nat.add_le_add (h x List.mem_cons_self) (sum_le_sum fun y m => h y (List.mem_cons_of_mem _ m))
theorem sum_add {β : Type} {f g : β → Nat} : ∀ (U : List β), (U.map fun x => f x + g x).sum = (U.map f).sum + (U.map g).sum
  | [] => rfl
  | x :: U => by
    rw [List.map_cons, List.map_cons, List.map_cons, List.sum_cons, List.sum_cons, List.sum_cons, sum_add U]
    omega
theorem sum_one {x : α} : ∀ {U : List α}, U.Nodup → x ∈ U → (U.map fun y => if x = y then 1 else 0).sum = 1
  | [], _, h => by cases h
  | y :: U, hn, h => by
    rw [List.nodup_cons] at hn
    rw [List.map_cons, List.sum_cons]
    by_cases e : x = y
    · subst e
      rw [if_pos rfl]
      have : ∀ V : List α, x ∉ V → (V.map fun y => if x = y then 1 else 0).sum = 0 := fun V => by
        induction V with
        | nil => exact fun _ => rfl
        | cons z V ih =>
          intro hz
          rw [List.map_cons, List.sum_cons, if_neg (fun e => hz (by rw [e]; exact List.mem_cons_self)), ih fun m => hz (List.mem_cons_of_mem _ m)]
      rw [this U hn.1]
    · rw [if_neg e, sum_one hn.2 ((List.mem_cons.mp h).resolve_left e)]
theorem sum_zero {β : Type} : ∀ (U : List β), (U.map fun _ => 0).sum = 0
  | [] => rfl
  | _ :: U => by rw [List.map_cons, List.sum_cons, sum_zero U]
def cntX (nm : Nat → α) (fl : Nat → Bool) (x : α) (m : Nat) : Nat := (List.range m).countP fun i => fl i && decide (nm i = x)
theorem cntX_succ (nm : Nat → α) (fl : Nat → Bool) (x : α) (m : Nat) : cntX nm fl x (m + 1) = cntX nm fl x m + if fl m = true ∧ nm m = x then 1 else 0 := by
  unfold cntX
  rw [List.range_succ, List.countP_append, List.countP_cons, List.countP_nil]
  congr 1
  by_cases h1 : fl m = true <;> by_cases h2 : nm m = x <;> simp [h1, h2]
theorem count_sum {nm : Nat → α} {fl : Nat → Bool} {U : List α} (hn : U.Nodup) : ∀ m, (∀ i, i < m → nm i ∈ U) → (List.range m).countP fl = (U.map fun x => cntX nm fl x m).sum
  | 0, _ => by
    show 0 = _
    rw [show (U.map fun x => cntX nm fl x 0) = U.map fun _ => 0 from rfl, sum_zero]
  | m + 1, h => by
    have ih := count_sum (fl := fl) hn m fun i hi => h i (Nat.lt_succ_of_lt hi)
    rw [List.range_succ, List.countP_append, ih, List.countP_cons, List.countP_nil]
    rw [show (U.map fun x => cntX nm fl x (m + 1)) = U.map fun x => cntX nm fl x m + if fl m = true ∧ nm m = x then 1 else 0 from List.map_congr_left fun x _ => cntX_succ nm fl x m, sum_add]
    congr 1
    cases hf : fl m with
    | true =>
      have := sum_one hn (h m (Nat.lt_succ_self m))
      simp only [true_and]
      rw [this]
      rfl
    | false =>
      have e : (U.map fun x => if false = true ∧ nm m = x then 1 else 0) = U.map fun _ => 0 := List.map_congr_left fun x _ => by simp
      rw [e, sum_zero]
      rfl
/-! ### the latest accepted copy of a name -/
def laX (nm : Nat → α) (fl : Nat → Bool) (x : α) (m : Nat) : Option Nat := (List.range m).reverse.find? fun j => decide (nm j = x) && fl j
theorem laX_succ (nm : Nat → α) (fl : Nat → Bool) (x : α) (m : Nat) : laX nm fl x (m + 1) = if fl m = true ∧ nm m = x then some m else laX nm fl x m := by
  unfold laX
  rw [List.range_succ, List.reverse_append, List.reverse_cons, List.reverse_nil, List.nil_append, List.singleton_append, List.find?_cons]
  by_cases h1 : fl m = true <;> by_cases h2 : nm m = x <;> simp [h1, h2]
theorem laX_lt {nm : Nat → α} {fl : Nat → Bool} {x : α} {m j : Nat} (h : laX nm fl x m = some j) : j < m := by
  have := List.mem_of_find?_eq_some h
  exact List.mem_range.mp (List.mem_reverse.mp this)
theorem dist_hold (nm : Nat → α) (tk : Nat → Int) (fl : Nat → Bool) (i : Nat) : dist .hold nm tk fl i = (laX nm fl (nm i) i).map fun j => tk i - tk j := rfl
/-- a larger hold size never accepts more of a name -/
theorem hold_name {nm : Nat → α} {tk : Nat → Int} {f1 f2 : Nat → Bool} {n1 n2 : Int} {m : Nat} (hn : n1 ≤ n2) (hm : ∀ a b, a ≤ b → b < m → tk a ≤ tk b) (h1 : Runs .hold n1 nm tk m f1) (h2 : Runs .hold n2 nm tk m f2) (x : α) :
    ∀ i, i ≤ m → cntX nm f2 x i < cntX nm f1 x i ∨ (cntX nm f2 x i = cntX nm f1 x i ∧ match laX nm f1 x i, laX nm f2 x i with
      | none, none => True
      | some a, some b => tk a ≤ tk b
      | _, _ => False)
  | 0, _ => .inr ⟨rfl, trivial⟩
  | i + 1, hi => by
    have ih := hold_name hn hm h1 h2 x i (Nat.le_of_succ_le hi)
    rw [cntX_succ, cntX_succ, laX_succ, laX_succ]
    by_cases hx : nm i = x
    · have d1 := h1 i hi
      have d2 := h2 i hi
      unfold okAt at d1 d2
      rw [dist_hold, hx] at d1 d2
      simp only [hx, and_true]
      rcases ih with ih | ⟨ih, la⟩
      · cases e2 : f2 i with
        | false =>
          simp only [Bool.false_eq_true, if_false, Nat.add_zero]
          left
          split <;> omega
        | true =>
          simp only [if_true]
          cases e1 : f1 i with
          | true => left; simp only [if_true]; omega
          | false =>
            simp only [Bool.false_eq_true, if_false, Nat.add_zero]
            by_cases q : cntX nm f2 x i + 1 < cntX nm f1 x i
            · exact .inl q
            · right
              refine ⟨by omega, ?_⟩
              cases l1 : laX nm f1 x i with
              | none => rw [l1] at d1; rw [e1] at d1; simp at d1
              | some a => exact hm a i (Nat.le_of_lt (laX_lt l1)) hi
      · cases l1 : laX nm f1 x i with
        | none =>
          rw [l1] at la d1
          cases l2 : laX nm f2 x i with
          | none =>
            rw [l2] at d2
            have e1 : f1 i = true := d1
            have e2 : f2 i = true := d2
            right
            simp only [e1, e2, if_true]
            exact ⟨by omega, Int.le_refl _⟩
          | some b => rw [l2] at la; exact la.elim
        | some a =>
          rw [l1] at la d1
          cases l2 : laX nm f2 x i with
          | none => rw [l2] at la; exact la.elim
          | some b =>
            rw [l2] at la d2
            have la' : tk a ≤ tk b := la
            have d1' : f1 i = decide (n1 ≤ tk i - tk a) := d1
            have d2' : f2 i = decide (n2 ≤ tk i - tk b) := d2
            cases e2 : f2 i with
            | true =>
              rw [e2] at d2'
              have h3 : n2 ≤ tk i - tk b := of_decide_eq_true d2'.symm
              have e1 : f1 i = true := by rw [d1']; exact decide_eq_true (by omega)
              right
              simp only [e1, if_true]
              exact ⟨by omega, Int.le_refl _⟩
            | false =>
              simp only [Bool.false_eq_true, if_false, Nat.add_zero]
              cases e1 : f1 i with
              | true => left; simp only [if_true]; omega
              | false => right; simp only [Bool.false_eq_true, if_false, Nat.add_zero]; exact ⟨ih, la'⟩
    · simp only [hx, and_false, if_false, Nat.add_zero]
      exact ih
theorem hold_count {nm : Nat → α} {tk : Nat → Int} {f1 f2 : Nat → Bool} {n1 n2 : Int} {m : Nat} (hn : n1 ≤ n2) (hm : ∀ a b, a ≤ b → b < m → tk a ≤ tk b) (h1 : Runs .hold n1 nm tk m f1) (h2 : Runs .hold n2 nm tk m f2) : (List.range m).countP f2 ≤ (List.range m).countP f1 := by
  have hU : ∀ i, i < m → nm i ∈ uniq ((List.range m).map nm) := fun i hi => uniq_mem.mpr (List.mem_map.mpr ⟨i, List.mem_range.mpr hi, rfl⟩)
  rw [count_sum (uniq_nodup _) m hU, count_sum (uniq_nodup _) m hU]
  refine sum_le_sum fun x _ => ?_
  rcases hold_name hn hm h1 h2 x m (Nat.le_refl _) with h | h
  · exact Nat.le_of_lt h
  · exact Nat.le_of_eq h.1
/-- a larger size accepts no other message, where all that is received counts -/
theorem rr_mono {k : Kd} (hk : k.acc = false) {nm : Nat → α} {tk : Nat → Int} {f1 f2 : Nat → Bool} {n1 n2 : Int} {m : Nat} (hn : n1 ≤ n2) (h1 : Runs k n1 nm tk m f1) (h2 : Runs k n2 nm tk m f2) : ∀ i, i < m → f2 i = true → f1 i = true := fun i hi e => by
  have d1 := h1 i hi
  have d2 := h2 i hi
  unfold okAt at d1 d2
  have ed : dist k nm tk f1 i = dist k nm tk f2 i := by
    unfold dist
    rw [hk]
    cases k with
    | last => cases hk
    | hold => cases hk
    | recent => rfl
    | renew => rfl
  rw [ed] at d1
  cases q : dist k nm tk f2 i with
  | none => rw [q] at d1; exact d1
  | some d =>
    rw [q] at d1 d2
    rw [e] at d2
    have h3 : n2 ≤ d := of_decide_eq_true d2.symm
    rw [d1]
    exact decide_eq_true (by omega)
/-- every name is accepted once at least -/
theorem names_count {k : Kd} {n : Int} {nm : Nat → α} {tk : Nat → Int} {fl : Nat → Bool} {m : Nat} (h : Runs k n nm tk m fl) : (uniq ((List.range m).map nm)).length ≤ (List.range m).countP fl := by
  have hU : ∀ i, i < m → nm i ∈ uniq ((List.range m).map nm) := fun i hi => uniq_mem.mpr (List.mem_map.mpr ⟨i, List.mem_range.mpr hi, rfl⟩)
  rw [count_sum (uniq_nodup _) m hU]
  have : (uniq ((List.range m).map nm)).length = ((uniq ((List.range m).map nm)).map fun _ => 1).sum := by
    induction uniq ((List.range m).map nm) with
    | nil => rfl
    | cons y l ih => rw [List.length_cons, List.map_cons, List.sum_cons, ih]; omega
  rw [this]
  refine sum_le_sum fun x mx => ?_
  have hx := uniq_mem.mp mx
  have key : ∀ m', m' ≤ m → x ∈ (List.range m').map nm → 1 ≤ cntX nm fl x m' := fun m' => by
    induction m' with
    | zero => intro _ h0; simp at h0
    | succ i ih =>
      intro hi h0
      rw [cntX_succ]
      by_cases q : x ∈ (List.range i).map nm
      · have := ih (Nat.le_of_succ_le hi) q
        omega
      · have hnx : nm i = x := by
          rw [List.range_succ, List.map_append, List.mem_append] at h0
          rcases h0 with h0 | h0
          · exact absurd h0 q
          · simp at h0; exact h0.symm
        have hd : dist k nm tk fl i = none := by
          unfold dist
          cases hl : latJ nm (fun j => !k.acc || fl j) i with
          | none => rfl
          | some j =>
            obtain ⟨a1, a2, _, _⟩ := latJ_some hl
            exact absurd (List.mem_map.mpr ⟨j, List.mem_range.mpr a1, a2.trans hnx⟩) q
        have := h i hi
        unfold okAt at this
        rw [hd] at this
        rw [if_pos ⟨this, hnx⟩]
        omega
  exact key m (Nat.le_refl _) hx
/-! ### other ticks, other names -/
theorem dist_shift {k : Kd} {nm : Nat → α} {tk tk' : Nat → Int} {fl : Nat → Bool} {i : Nat} (c : Int) (h : ∀ j, j ≤ i → tk' j = tk j + c) : dist k nm tk' fl i = dist k nm tk fl i := by
  unfold dist
  cases hl : latJ nm (fun j => !k.acc || fl j) i with
  | none => rfl
  | some j =>
    have hj := (latJ_some hl).1
    cases k with
    | last => rfl
    | recent => rfl
    | hold => show some (tk' i - tk' j) = some (tk i - tk j); rw [h i (Nat.le_refl _), h j (Nat.le_of_lt hj)]; congr 1; omega
    | renew => show some (tk' i - tk' j) = some (tk i - tk j); rw [h i (Nat.le_refl _), h j (Nat.le_of_lt hj)]; congr 1; omega
theorem Runs.shift {k : Kd} {n : Int} {nm : Nat → α} {tk tk' : Nat → Int} {m : Nat} {fl : Nat → Bool} (c : Int) (h : ∀ j, j < m → tk' j = tk j + c) (r : Runs k n nm tk m fl) : Runs k n nm tk' m fl := fun i hi => by
  have := r i hi
  unfold okAt at this ⊢
  rw [dist_shift c fun j hj => h j (Nat.lt_of_le_of_lt hj hi)]
  exact this
theorem othS_ren {nm nm' : Nat → α} {f : α → α} {s m : Nat} (hs : s < m) (h : ∀ j, j < m → nm' j = f (nm j)) (hi : ∀ a b, a < m → b < m → f (nm a) = f (nm b) → nm a = nm b) :
    ∀ (is : List Nat), (∀ i ∈ is, i < m) → ∀ (p : List α × List Nat), (∀ x ∈ p.1, ∃ j, j < m ∧ x = nm j) → (is.foldl (othStep nm') (p.1.map f, p.2)).2 = (is.foldl (othStep nm) p).2
  | [], _, _, _ => rfl
  | i :: is, hm, p, hp => by
    rw [List.foldl_cons, List.foldl_cons]
    have him := hm i List.mem_cons_self
    have hmem : nm' i ∈ p.1.map f ↔ nm i ∈ p.1 := by
      rw [h i him, List.mem_map]
      constructor
      · rintro ⟨x, hx, e⟩
        obtain ⟨j, hj, rfl⟩ := hp x hx
        rw [← hi j i hj him e]
        exact hx
      · exact fun hx => ⟨_, hx, rfl⟩
    by_cases q : nm i ∈ p.1
    · rw [show othStep nm' (p.1.map f, p.2) i = (p.1.map f, p.2) from if_neg (fun z => z (hmem.mpr q)), show othStep nm p i = p from if_neg (fun z => z q)]
      exact othS_ren hs h hi is (fun a b => hm a (List.mem_cons_of_mem _ b)) p hp
    · rw [show othStep nm' (p.1.map f, p.2) i = (p.1.map f ++ [nm' i], p.2 ++ [i]) from if_pos (fun z => q (hmem.mp z)), show othStep nm p i = (p.1 ++ [nm i], p.2 ++ [i]) from if_pos q]
      rw [show (p.1.map f ++ [nm' i], p.2 ++ [i]) = ((p.1 ++ [nm i]).map f, p.2 ++ [i]) by rw [List.map_append, h i him]; rfl]
      refine othS_ren hs h hi is (fun a b => hm a (List.mem_cons_of_mem _ b)) (p.1 ++ [nm i], p.2 ++ [i]) fun x hx => ?_
      rcases List.mem_append.mp hx with hx | hx
      · exact hp x hx
      · exact ⟨i, him, List.mem_singleton.mp hx⟩
theorem dist_ren {k : Kd} {nm nm' : Nat → α} {tk : Nat → Int} {fl : Nat → Bool} {f : α → α} {i m : Nat} (hi : i < m) (h : ∀ j, j < m → nm' j = f (nm j)) (hf : ∀ a b, a < m → b < m → f (nm a) = f (nm b) → nm a = nm b) : dist k nm' tk fl i = dist k nm tk fl i := by
  have hl : latJ nm' (fun j => !k.acc || fl j) i = latJ nm (fun j => !k.acc || fl j) i := by
    unfold latJ
    refine find_congr fun j hj => ?_
    have hj := List.mem_range.mp (List.mem_reverse.mp hj)
    rw [h j (by omega), h i hi]
    congr 1
    by_cases q : nm j = nm i
    · rw [q]; simp
    · rw [decide_eq_false q, decide_eq_false fun z => q (hf j i (by omega) hi z)]
  unfold dist
  rw [hl]
  cases hq : latJ nm (fun j => !k.acc || fl j) i with
  | none => rfl
  | some j =>
    have hj := (latJ_some hq).1
    cases k with
    | last => rfl
    | hold => rfl
    | renew => rfl
    | recent =>
      show some ((othA nm' j i).length : Int) = some ((othA nm j i).length : Int)
      have e := othS_ren (s := j) (by omega) h hf (betw j i) (fun a b => by have := betw_mem.mp b; omega) ([nm j], []) fun x hx => ⟨j, by omega, List.mem_singleton.mp hx⟩
      unfold othA othS
      rw [h j (by omega)]
      rw [show ([f (nm j)], ([] : List Nat)) = (([nm j] : List α).map f, []) from rfl, e]
theorem Runs.ren {k : Kd} {n : Int} {nm nm' : Nat → α} {tk : Nat → Int} {m : Nat} {fl : Nat → Bool} {f : α → α} (h : ∀ j, j < m → nm' j = f (nm j)) (hf : ∀ a b, a < m → b < m → f (nm a) = f (nm b) → nm a = nm b) (r : Runs k n nm tk m fl) : Runs k n nm' tk m fl := fun i hi => by
  have := r i hi
  unfold okAt at this ⊢
  rw [dist_ren hi h hf]
  exact this
end
end DG

/-! ## PK -/
set_option Elab.async false
set_option linter.all false
set_option maxRecDepth 100000
set_option maxHeartbeats 4000000
namespace DG
open PySem PySem.Spec PyProof.Rows L2
/-! ### a gate's decisions are a run -/
theorem flL_get {fs : List Bool} {i : Nat} (h : i < fs.length) : fs[i]? = some (flL fs i) := get_getD _ h
theorem pastF_take {k : Kd} {n : Int} (l : Log) (i : Nat) (hi : i ≤ l.length) : (pastG k n l).take i = pastF (nmL l) (tkL l) (flL (lawFlags k n l)) i := by
  apply List.ext_getElem?
  intro j
  unfold pastF
  rw [List.getElem?_take, List.getElem?_map]
  by_cases hj : j < i
  · rw [if_pos hj, List.getElem?_range hj]
    have hjl : j < l.length := by omega
    have hjp : j < (pastG k n l).length := by rw [pastG_len]; exact hjl
    rw [List.getElem?_eq_getElem hjp]
    have h1 : ((pastG k n l).map (fun p => (p.1, p.2.1)))[j]? = l[j]? := by rw [past_ticks]
    have h2 : (lawFlags k n l)[j]? = some ((pastG k n l)[j]).2.2 := by
      unfold lawFlags
      rw [List.getElem?_map, List.getElem?_eq_getElem hjp]
      rfl
    rw [List.getElem?_map, List.getElem?_eq_getElem hjp] at h1
    have h3 : atL l j = ((pastG k n l)[j].1, (pastG k n l)[j].2.1) := by
      unfold atL
      rw [List.getD_eq_getElem?_getD, ← h1]
      rfl
    have h4 : flL (lawFlags k n l) j = ((pastG k n l)[j]).2.2 := by
      unfold flL
      rw [List.getD_eq_getElem?_getD, h2]
      rfl
    show some _ = some (tkL l j, nmL l j, flL (lawFlags k n l) j)
    rw [h4]
    unfold tkL nmL
    rw [h3]
  · rw [if_neg hj, List.getElem?_eq_none (by rw [List.length_range]; omega)]
    rfl
theorem flags_step {k : Kd} {n : Int} {l : Log} {i : Nat} (hi : i < l.length) : flL (lawFlags k n l) i = !decide (nmL l i ∈ memG k n (pastF (nmL l) (tkL l) (flL (lawFlags k n l)) i) (tkL l i)) := by
  have e0 : l.take i ++ [atL l i] ++ l.drop (i + 1) = l := by
    have h1 : l[i]? = some (atL l i) := get_getD _ hi
    have h2 : l.take (i + 1) = l.take i ++ [atL l i] := by
      rw [List.take_add_one, h1]
      rfl
    rw [← h2, List.take_append_drop]
  have e1 : (pastG k n l).take (i + 1) = pastG k n (l.take i ++ [atL l i]) := by
    have := past_take k n (l.take i ++ [atL l i]) (l.drop (i + 1))
    rw [e0] at this
    rw [← this]
    congr 1
    simp
    omega
  have e2 : (pastG k n l).take i = pastG k n (l.take i) := by
    have := past_take k n (l.take i) (l.drop i)
    rw [List.take_append_drop] at this
    rw [← this]
    congr 1
    rw [List.length_take]
    omega
  rw [pastG_snoc, ← e2, pastF_take l i (Nat.le_of_lt hi)] at e1
  have e3 : ((pastG k n l).take (i + 1))[i]? = some (tkL l i, nmL l i, !decide (nmL l i ∈ memG k n (pastF (nmL l) (tkL l) (flL (lawFlags k n l)) i) (tkL l i))) := by
    rw [e1]
    unfold pastStep
    rw [List.getElem?_append_right (by unfold pastF; simp)]
    unfold pastF
    simp
    exact ⟨rfl, rfl, Iff.rfl⟩
  rw [pastF_take l (i + 1) hi] at e3
  unfold pastF at e3
  rw [List.getElem?_map, List.getElem?_range (Nat.lt_succ_self i)] at e3
  have := Option.some.inj e3
  exact congrArg (fun z => z.2.2) this
@[simp] theorem lawFlags_len (k : Kd) (n : Int) (l : Log) : (lawFlags k n l).length = l.length := by
  unfold lawFlags
  rw [List.length_map, pastG_len]
theorem okAt_of_mem {k : Kd} {n : Int} (hn : 1 ≤ n) {nm : Nat → Str} {tk : Nat → Int} {fl : Nat → Bool} {i : Nat} (hm : ∀ a b, a ≤ b → b ≤ i → tk a ≤ tk b) (h : fl i = !decide (nm i ∈ memG k n (pastF nm tk fl i) (tk i))) : okAt k n nm tk fl i := by
  unfold okAt
  rw [h]
  have hd := mem_dist (k := k) hn (nm := nm) (fl := fl) hm
  cases q : dist k nm tk fl i with
  | none =>
    have : nm i ∉ memG k n (pastF nm tk fl i) (tk i) := fun z => by
      obtain ⟨d, e, _⟩ := hd.mp z
      rw [q] at e
      cases e
    simp [this]
  | some d =>
    by_cases z : nm i ∈ memG k n (pastF nm tk fl i) (tk i)
    · obtain ⟨d', e, lt⟩ := hd.mp z
      rw [q] at e
      cases e
      have : ¬ n ≤ d := by omega
      simp [z, this]
    · have : n ≤ d := by
        by_cases y : n ≤ d
        · exact y
        · exact absurd (hd.mpr ⟨d, q, by omega⟩) z
      simp [z, this]
theorem runs_flags {k : Kd} {n : Int} (hn : 1 ≤ n) {l : Log} (hu : upPw l) : Runs k n (nmL l) (tkL l) l.length (flL (flagsM k n l)) := fun i hi => by
  rw [flags_law hn hu]
  exact okAt_of_mem hn (fun a b h1 h2 => tk_mono hu h1 (by omega)) (flags_step hi)
theorem flL_ext {f g : List Bool} (hl : f.length = g.length) (h : ∀ i, i < f.length → flL f i = flL g i) : f = g := by
  apply List.ext_getElem?
  intro i
  by_cases hi : i < f.length
  · rw [flL_get hi, flL_get (by omega), h i hi]
  · rw [List.getElem?_eq_none (by omega), List.getElem?_eq_none (by omega)]
theorem flags_iff {k : Kd} {n : Int} (hn : 1 ≤ n) {l : Log} (hu : upPw l) {R : List Bool} (hR : R.length = l.length) : flagsM k n l = R ↔ Runs k n (nmL l) (tkL l) l.length (flL R) := by
  constructor
  · intro e
    rw [← e]
    exact runs_flags hn hu
  · intro h
    exact flL_ext (by rw [flagsM_len, hR]) fun i hi => by
      rw [flagsM_len] at hi
      exact (runs_flags hn hu).uniq h i hi
theorem count_range (fs : List Bool) : fs.count true = (List.range fs.length).countP (flL fs) := by
  have e : fs = (List.range fs.length).map (flL fs) := by
    apply List.ext_getElem?
    intro i
    rw [List.getElem?_map]
    by_cases hi : i < fs.length
    · rw [List.getElem?_range hi, flL_get hi]
      rfl
    · rw [List.getElem?_eq_none (by omega), List.getElem?_eq_none (by rw [List.length_range]; omega)]
      rfl
  conv => lhs; rw [e]
  show List.countP (· == true) _ = _
  rw [List.countP_map]
  refine List.countP_congr fun i _ => ?_
  simp
theorem names_eq (l : Log) : (List.range l.length).map (nmL l) = l.map (·.2) := by
  apply List.ext_getElem?
  intro i
  rw [List.getElem?_map, List.getElem?_map]
  by_cases hi : i < l.length
  · have h1 : l[i]? = some (atL l i) := get_getD _ hi
    rw [List.getElem?_range hi, h1]
    rfl
  · rw [List.getElem?_eq_none (by rw [List.length_range]; omega), List.getElem?_eq_none (by omega)]
    rfl
end DG

/-! ## PL -/
set_option Elab.async false
set_option linter.all false
set_option maxRecDepth 100000
set_option maxHeartbeats 4000000
namespace DG
open PySem PySem.Spec PyProof.Rows L2
/-! ### more loops -/
theorem forX_go {S A : Type} {f : D → S → W (Out S)} (e : A → D) (G : List A → S) (as : List A) (hJ : ∀ pre a post, as = pre ++ a :: post → f (e a) (G pre) = pure (.nx (G (pre ++ [a])))) : forX (as.map e) (G []) f = pure (.nx (G as)) := by
  have main : ∀ (post pre : List A), as = pre ++ post → forX (post.map e) (G pre) f = pure (.nx (G as)) := by
    intro post
    induction post with
    | nil => intro pre h; rw [List.append_nil] at h; rw [h]; rfl
    | cons a post ih =>
      intro pre h
      show (f (e a) (G pre) >>= fun x => out2W (fun s' => forX (post.map e) s' f) x) = _
      rw [hJ pre a post h, pure_bind]
      exact ih (pre ++ [a]) (by rw [h, List.append_assoc]; rfl)
  exact main as [] rfl
theorem forX_all {A : Type} {f : D → Unit → W (Out Unit)} {e : A → D} : ∀ (as : List A), (∀ a ∈ as, f (e a) () = pure (.nx ())) → forX (as.map e) () f = pure (.nx ())
  | [], _ => rfl
  | a :: as, h => by
    show (f (e a) () >>= fun x => out2W (fun s' => forX (as.map e) s' f) x) = _
    rw [h a List.mem_cons_self, pure_bind]
    exact forX_all as fun b m => h b (List.mem_cons_of_mem _ m)
/-- turns that go on up to one that hands back -/
theorem forX_stop {S A : Type} {f : D → S → W (Out S)} (e : A → D) (G : List A → S) (as pre0 post0 : List A) (a0 : A) (d : D) (h0 : as = pre0 ++ a0 :: post0) (hJ : ∀ pre a post, pre0 = pre ++ a :: post → f (e a) (G pre) = pure (.nx (G (pre ++ [a])))) (hs : f (e a0) (G pre0) = pure (.rt d)) : forX (as.map e) (G []) f = pure (.rt d) := by
  have main : ∀ (post pre : List A), pre0 = pre ++ post → forX ((post ++ a0 :: post0).map e) (G pre) f = pure (.rt d) := by
    intro post
    induction post with
    | nil =>
      intro pre h
      rw [List.append_nil] at h
      subst h
      show (f (e a0) (G pre0) >>= fun x => out2W (fun s' => forX (post0.map e) s' f) x) = _
      rw [hs, pure_bind]
      rfl
    | cons a post ih =>
      intro pre h
      show (f (e a) (G pre) >>= fun x => out2W (fun s' => forX ((post ++ a0 :: post0).map e) s' f) x) = _
      rw [hJ pre a post h, pure_bind]
      exact ih (pre ++ [a]) (by rw [h, List.append_assoc]; rfl)
  rw [h0]
  exact main pre0 [] rfl
theorem sorted_then {β : Type} {zs : List Int} {k : List D → W β} {P : β → Prop} {E : Exn → Prop} (h : ∀ ys : List Int, ys.Perm zs → ys.Pairwise (· ≤ ·) → (k (ys.map D.int)) P E) : (sortedD [.lst (zs.map D.int)] >>= k) P E := by
  unfold sortedD
  simp only [intsOf_map]
  exact fun ys hy => h ys hy.1 hy.2
theorem zip_self {β : Type} : ∀ l : List β, l.zip l = l.map fun a => (a, a)
  | [] => rfl
  | a :: l => by rw [List.zip_cons_cons, List.map_cons, zip_self l]
theorem zip_next {p : Int × Int} : ∀ {ys : List Int}, ys.Pairwise (· ≤ ·) → p ∈ ys.zip (ys.drop 1) → p.1 ∈ ys ∧ p.2 ∈ ys ∧ p.1 ≤ p.2
  | [], _, h => by cases h
  | [y], _, h => by cases h
  | y :: z :: ys, hp, h => by
    rw [List.pairwise_cons] at hp
    rcases List.mem_cons.mp h with rfl | h
    · exact ⟨List.mem_cons_self, List.mem_cons_of_mem _ List.mem_cons_self, hp.1 z List.mem_cons_self⟩
    · obtain ⟨a, b, c⟩ := zip_next hp.2 h
      exact ⟨List.mem_cons_of_mem _ a, List.mem_cons_of_mem _ b, c⟩
theorem ints_of {ds : List D} {p : Int → Prop} (h : ∀ d ∈ ds, ∃ z : Int, d = .int z ∧ p z) : ∃ zs : List Int, ds = zs.map D.int ∧ ∀ z ∈ zs, p z := by
  induction ds with
  | nil => exact ⟨[], rfl, fun _ m => by cases m⟩
  | cons d ds ih =>
    obtain ⟨z, rfl, hz⟩ := h d List.mem_cons_self
    obtain ⟨zs, e, hp⟩ := ih fun x m => h x (List.mem_cons_of_mem _ m)
    refine ⟨z :: zs, by rw [e]; rfl, fun y m => ?_⟩
    rcases List.mem_cons.mp m with rfl | m
    · exact hz
    · exact hp y m
theorem decisions_at {k : Kd} {n : Int} {l : Log} (hr : okRule k n) (hl : okLog l = true) : den_decisions [.tup [.str k.str, .int n], logD l] = pure ((flagsM k n l).map D.bl) := decisions_eq hr hl
end DG

/-! ## PE2 -/
set_option Elab.async false
set_option linter.all false
set_option maxRecDepth 100000
set_option maxHeartbeats 4000000
namespace DG
open PySem PySem.Spec PyProof.Rows L2
/-! ### errors, as a law asks them -/
theorem catch_throw {xs : List Str} {x : Str} (h : x ∈ xs) : catchF xs (throwW x) = pure [.str x, .bl true] := by
  funext Q E
  exact propext ⟨fun z => z.2, fun z => ⟨h, z⟩⟩
theorem catch_pure {xs : List Str} {d : D} : catchF xs (pure d) = pure [] := rfl
theorem ne_err {x : Str} (h : PyData.strOk x = true) : neD (.lst [.str x, .bl true]) (.lst [.str x, .bl true]) = pure (.bl false) := ne_self (m := 1) (shm_lst fun d hd => by
  simp only [List.mem_cons, List.not_mem_nil, or_false] at hd
  rcases hd with rfl | rfl
  · exact shm_str h
  · exact shm_bl _) (by decide)
/-- what is no integer from lo to hi -/
theorem int_bl (b : Bool) (lo hi : D) : den_is_integer [.bl b, lo, hi] = pure (.bl false) := by
  show dn_is_integer _ _ _ = _
  unfold dn_is_integer
  simp only [pure_bind, isi_bl_int, isi_bl_bool, boolD_bl, Bool.not_true, if_true, Bool.false_eq_true, if_false]
theorem int_non (lo hi : D) : den_is_integer [.non, lo, hi] = pure (.bl false) := by
  show dn_is_integer _ _ _ = _
  unfold dn_is_integer
  simp only [pure_bind, isi_non_int, boolD_bl, Bool.false_eq_true, if_false]
theorem int_str (x : Str) (lo hi : D) : den_is_integer [.str x, lo, hi] = pure (.bl false) := by
  show dn_is_integer _ _ _ = _
  unfold dn_is_integer
  simp only [pure_bind, isi_str_int, boolD_bl, Bool.false_eq_true, if_false]
theorem throw_bind {α β : Type} (x : Exn) (k : α → W β) : ((throwW x : W α) >>= k) = throwW x := rfl
theorem forX_each {f : D → Unit → W (Out Unit)} : ∀ ds : List D, (∀ d ∈ ds, f d () = pure (.nx ())) → forX ds () f = pure (.nx ())
  | [], _ => rfl
  | d :: ds, h => by
    have := forX_all (f := f) (e := fun d => d) (d :: ds) h
    rwa [List.map_id'] at this
end DG

/-! ## DC5 -/
set_option Elab.async false
set_option linter.all false
set_option maxRecDepth 100000
set_option maxHeartbeats 4000000
namespace DG
open PySem PySem.Spec PyProof.Rows L2

def dn_need_traffic (v_rate : D) (v_delay : D) : W D := do let t20 ← (do let x19 ← (do let x9 ← (do let x8 ← (do let x7 ← (do let x5 ← (pure v_rate); let x6 ← (do let x3 ← (pure (.int 1)); let x4 ← (do let x1 ← (pure (.int 20)); let x2 ← (pure []); pure (x1 :: x2)); pure (x3 :: x4)); pure (x5 :: x6)); den_is_integer x7); boolD x8); pure (!x9)); if x19 then pure true else (do let x18 ← (do let x17 ← (do let x16 ← (do let x14 ← (pure v_delay); let x15 ← (do let x12 ← (pure (.int 0)); let x13 ← (do let x10 ← (pure (.int 20)); let x11 ← (pure []); pure (x10 :: x11)); pure (x12 :: x13)); pure (x14 :: x15)); den_is_integer x16); boolD x17); pure (!x18))); if t20 then (throwW "InvalidTraffic") else (pure .non)
def den_need_traffic : List D → W D
  | [v_rate, v_delay] => dn_need_traffic v_rate v_delay
  | _ => stuck

def dn_is_traffic (v_rate : D) (v_delay : D) (v_log : D) : W D := ((do let _ ← (do let x5 ← (do let x3 ← (pure v_rate); let x4 ← (do let x1 ← (pure v_delay); let x2 ← (pure []); pure (x1 :: x2)); pure (x3 :: x4)); den_need_traffic x5); pure ()) >>= fun _ => ((do let _ ← (do let x9 ← (do let x7 ← (pure v_log); let x8 ← (pure []); pure (x7 :: x8)); den_need_log x9); pure ()) >>= fun _ => ((do let x11 ← (pure ()); let x12 ← (pure ()); pure (x11, x12)) >>= fun s14 => (do let o ← (do let ds ← (do let x15 ← (pure v_log); seqD x15); forX ds ([], []) fun d16 (s17 : Tb × Tb) => (patTup 2 (patCons pure (patOne pure))) d16 >>= fun t18 => ((do let t25 ← (do let x23 ← (pure t18.2); let x24 ← khas s17.1 x23; pure (!x24)); if t25 then ((do let x27 ← (pure t18.1); let x28 ← (pure t18.2); kput s17.1 x28 x27) >>= fun s30 => ((do let x35 ← (do let x33 ← (do let x31 ← (pure t18.1); let x32 ← (pure (.int 0)); kget2 s17.2 x31 x32); let x34 ← (pure (.int 1)); addD x33 x34); let x36 ← (pure t18.1); kput s17.2 x36 x35) >>= fun s38 => (pure (s30, s38)))) else (pure (s17.1, s17.2))) >>= fun s39 => (do let t52 ← (do let x51 ← (do let x43 ← (do let x41 ← (pure t18.1); let x42 ← (do let x40 ← (pure t18.2); kget s39.1 x40); subD x41 x42); let x44 ← (pure v_delay); let x45 ← gtD x43 x44; boolD x45); if x51 then pure true else (do let x48 ← (do let x46 ← (pure t18.1); let x47 ← (pure (.int 0)); kget2 s39.2 x46 x47); let x49 ← (pure v_rate); let x50 ← gtD x48 x49; boolD x50)); if t52 then (do let d ← (pure (.bl false)); pure (.rt d)) else (pure (.nx (s39.1, s39.2)))))); outW (fun s53 => (pure (.bl true))) o))))
def den_is_traffic : List D → W D
  | [v_rate, v_delay, v_log] => dn_is_traffic v_rate v_delay v_log
  | _ => stuck

def dn__law_traffic_log (v_rate : D) (v_delay : D) (v_ticks : D) : W D := ((do let x2 ← (do let x1 ← (pure []); pure (.lst x1)); let x3 ← (pure []); pure (x2, x3)) >>= fun s5 => ((pure (.str "abcdefghijklmnopqrstuvwxyz")) >>= fun s7 => ((do let ds ← (do let x10 ← (do let x8 ← (pure v_ticks); let x9 ← (pure []); pure (x8 :: x9)); rng1D x10); forW ds (s5.2, s5.1) fun d11 (s12 : List D × D) => pure d11 >>= fun t13 => ((pure []) >>= fun s17 => ((do let ds ← (do let x27 ← (do let x25 ← (do let x24 ← (do let x22 ← (pure .bag); let x23 ← (do let x20 ← (do let x18 ← (pure v_rate); let x19 ← (pure (.int 1)); addD x18 x19); let x21 ← (pure []); pure (x20 :: x21)); pure (x22 :: x23)); takeD x24); let x26 ← (pure []); pure (x25 :: x26)); rng1D x27); forW ds (s12.1, s17) fun d28 (s29 : List D × List D) => pure d28 >>= fun t30 => ((do let d ← (do let x51 ← (do let x42 ← (pure (.str "n")); let x43 ← (do let x40 ← (pure s7); let x41 ← (do let x38 ← (do let x36 ← (do let x35 ← (do let x33 ← (pure (.lst s29.1)); let x34 ← (pure []); pure (x33 :: x34)); lenD x35); let x37 ← (pure (.int 26)); divD x36 x37); let x39 ← (pure (.int 26)); modD x38 x39); idxD x40 x41); addD x42 x43); let x52 ← (do let x49 ← (pure s7); let x50 ← (do let x47 ← (do let x46 ← (do let x44 ← (pure (.lst s29.1)); let x45 ← (pure []); pure (x44 :: x45)); lenD x46); let x48 ← (pure (.int 26)); modD x47 x48); idxD x49 x50); addD x51 x52); flatW d) >>= fun s54 => ((do let x60 ← (do let x59 ← (do let x57 ← (pure t13); let x58 ← (do let x55 ← (pure s54); let x56 ← (pure []); pure (x55 :: x56)); pure (x57 :: x58)); pure (.tup x59)); need (List.length s29.1 < line) (pure (s29.1 ++ [x60]))) >>= fun s62 => ((do let x63 ← (pure s54); need (List.length s29.2 < line) (pure (s29.2 ++ [x63]))) >>= fun s65 => (pure (s62, s65)))))) >>= fun s66 => ((do let ds ← (do let x74 ← (do let x72 ← (do let x71 ← (do let x69 ← (pure .bag); let x70 ← (do let x67 ← (pure (.int 5)); let x68 ← (pure []); pure (x67 :: x68)); pure (x69 :: x70)); takeD x71); let x73 ← (pure []); pure (x72 :: x73)); rng1D x74); forW ds s66.2 fun d75 (s76 : List D) => pure d75 >>= fun t77 => ((do let d ← (do let ds88 ← (do let x80 ← (pure (.lst s66.1)); seqD x80); need (ds88.length ≤ line) (compW ds88 fun d86 => do let t85 ← (patTup 2 (patCons pure (patOne pure))) d86; let c94 ← (do let x91 ← (do let x89 ← (pure t13); let x90 ← (pure t85.1); subD x89 x90); let x92 ← (pure v_delay); let x93 ← leD x91 x92; boolD x93); if c94 then (do let x87 ← (pure t85.2); pure (some x87)) else pure none)); flatsW d) >>= fun s96 => ((do let t101 ← (do let x98 ← (pure (.lst s96)); let x99 ← (do let x97 ← (pure []); pure (.lst x97)); let x100 ← neD x98 x99; boolD x100); if t101 then ((do let x123 ← (do let d ← (do let x112 ← (do let x110 ← (pure .bag); let x111 ← (do let x108 ← (do let x106 ← (do let x105 ← (do let x103 ← (pure (.lst s76)); let x104 ← (pure []); pure (x103 :: x104)); lenD x105); let x107 ← (pure (.int 1)); addD x106 x107); let x109 ← (pure []); pure (x108 :: x109)); pure (x110 :: x111)); takeD x112); flatW d); let x124 ← (do let x121 ← (pure (.lst s96)); let x122 ← (do let x120 ← (do let x118 ← (pure .bag); let x119 ← (do let x116 ← (do let x115 ← (do let x113 ← (pure (.lst s96)); let x114 ← (pure []); pure (x113 :: x114)); lenD x115); let x117 ← (pure []); pure (x116 :: x117)); pure (x118 :: x119)); takeD x120); idxD x121 x122); linsD s76 x123 x124) >>= fun s126 => (pure s126)) else (pure s76)) >>= fun s127 => (pure s127)))) >>= fun s128 => ((do let x142 ← (pure s12.2); let x143 ← (do let x141 ← (do let ds140 ← (do let x129 ← (pure (.lst s128)); seqD x129); need (ds140.length ≤ line) (compW ds140 fun d138 => do let t132 ← pure d138; let x139 ← (do let x137 ← (do let x135 ← (pure t13); let x136 ← (do let x133 ← (pure t132); let x134 ← (pure []); pure (x133 :: x134)); pure (x135 :: x136)); pure (.tup x137)); pure (some x139))); pure (.lst x141)); addD x142 x143) >>= fun s145 => (pure (s66.1, s145))))))) >>= fun s146 => (do let x154 ← (do let x152 ← (do let x149 ← (pure s146.2); let x150 ← (pure none); let x151 ← (do let x147 ← (pure (.int 60)); let x148 ← intD x147; pure (some x148)); slcD x149 x150 x151); let x153 ← (pure []); pure (x152 :: x153)); tupleD x154))))
def den__law_traffic_log : List D → W D
  | [.bag, v_rate, v_delay, v_ticks] => dn__law_traffic_log v_rate v_delay v_ticks
  | _ => stuck

end DG

/-! ## PE3 -/
set_option Elab.async false
set_option linter.all false
set_option maxRecDepth 100000
set_option maxHeartbeats 4000000
namespace DG
open PySem PySem.Spec PyProof.Rows L2
/-! ### bad rules, bad traffics -/
theorem bad_rule_ty {d : D} (h : isiD d "tuple" = pure (.bl false)) : den_need_rule [d] = throwW "InvalidRule" := by
  have e : den_is_rule [d] = pure (.bl false) := by
    show dn_is_rule _ = _
    unfold dn_is_rule
    simp only [pure_bind, h, boolD_bl, Bool.not_false, if_true]
  show dn_need_rule _ = _
  unfold dn_need_rule
  simp only [pure_bind, e, boolD_bl, Bool.not_false, if_true]
theorem bad_rule_non : den_need_rule [.non] = throwW "InvalidRule" := bad_rule_ty isi_non_tuple
theorem bad_rule_lst (ds : List D) : den_need_rule [.lst ds] = throwW "InvalidRule" := bad_rule_ty (isi_lst_tuple ds)
theorem bad_rule_n {k : Kd} {n : Int} (h : ¬ (1 ≤ n ∧ n ≤ k.most)) : den_need_rule [ruleD k n] = throwW "InvalidRule" := by
  have e : den_is_rule [ruleD k n] = pure (.bl false) := by rw [is_rule_eq, decide_eq_false h]
  show dn_need_rule _ = _
  unfold dn_need_rule
  simp only [pure_bind, e, boolD_bl, Bool.not_false, if_true]
theorem bad_kind {x : Str} (h : x ∉ [("last" : Str), "recent", "hold", "renew"]) : den_is_kind [.str x] = pure (.bl false) := by
  show dn_is_kind _ = _
  unfold dn_is_kind
  simp [c_COUNT_KINDS, c_TIME_KINDS, add_tup (show [D.str "last", D.str "recent"].length + [D.str "hold", D.str "renew"].length ≤ line by decide), -List.mem_cons, h]
theorem bad_rule_kind {x : Str} (h : x ∉ [("last" : Str), "recent", "hold", "renew"]) (d : D) : den_need_rule [.tup [.str x, d]] = throwW "InvalidRule" := by
  have e : den_is_rule [.tup [.str x, d]] = pure (.bl false) := by
    show dn_is_rule _ = _
    unfold dn_is_rule
    have hl : lenD [.tup [.str x, d]] = pure (.int 2) := rfl
    simp only [pure_bind, isi_tup_tuple, boolD_bl, Bool.not_true, Bool.not_false, if_true, Bool.false_eq_true, if_false, hl, ne_int, decide_true, idxT0, bad_kind h]
  show dn_need_rule _ = _
  unfold dn_need_rule
  simp only [pure_bind, e, boolD_bl, Bool.not_false, if_true]
theorem bad_traffic1 {o d : D} (h : o ∈ [D.int 0, .int 21, .bl true, .non, .str "1"]) : den_need_traffic [o, d] = throwW "InvalidTraffic" := by
  have e : den_is_integer [o, .int 1, .int 20] = pure (.bl false) := by
    simp only [List.mem_cons, List.not_mem_nil, or_false] at h
    rcases h with rfl | rfl | rfl | rfl | rfl
    · rw [is_integer_eq]; rfl
    · rw [is_integer_eq]; rfl
    · exact int_bl _ _ _
    · exact int_non _ _
    · exact int_str _ _ _
  show dn_need_traffic _ _ = _
  unfold dn_need_traffic
  simp only [pure_bind, e, boolD_bl, Bool.not_false, if_true]
end DG

/-! ## Dk17 -/
set_option Elab.async false
set_option linter.all false
set_option maxRecDepth 100000
set_option maxHeartbeats 4000000
namespace DG
open PySem PySem.Spec PyProof.Rows L2

def dn__law_list  : W D := ((do let ds31 ← (do let x10 ← (do let x8 ← (do let x6 ← (pure (.int 1)); let x7 ← (do let x5 ← (do let x3 ← (pure .bag); let x4 ← (do let x1 ← (pure (.int 2)); let x2 ← (pure []); pure (x1 :: x2)); pure (x3 :: x4)); takeD x5); addD x6 x7); let x9 ← (pure []); pure (x8 :: x9)); rng1D x10); need (ds31.length ≤ line) (compW ds31 fun d29 => do let t13 ← pure d29; let x30 ← (do let x28 ← (do let x26 ← (do let x16 ← (do let x14 ← (pure .bag); let x15 ← (pure []); pure (x14 :: x15)); den__law_kind x16); let x27 ← (do let x24 ← (do let x22 ← (pure (.int 1)); let x23 ← (do let x21 ← (do let x19 ← (pure .bag); let x20 ← (do let x17 ← (pure (.int 6)); let x18 ← (pure []); pure (x17 :: x18)); pure (x19 :: x20)); takeD x21); addD x22 x23); let x25 ← (pure []); pure (x24 :: x25)); pure (x26 :: x27)); pure (.tup x28)); pure (some x30))) >>= fun s33 => (do let x36 ← (do let x34 ← (pure (.lst s33)); let x35 ← (pure []); pure (x34 :: x35)); tupleD x36))
def den__law_list : List D → W D
  | [.bag] => dn__law_list 
  | _ => stuck

def dn__law_list_flags (v_rules : D) (v_log : D) : W D := do let x25 ← (do let x4 ← (do let x3 ← (do let x1 ← (pure v_rules); let x2 ← (pure []); pure (x1 :: x2)); lenD x3); let x5 ← (pure (.int 1)); let x6 ← eqD x4 x5; boolD x6); if x25 then (do let x13 ← (do let x11 ← (do let x7 ← (pure v_rules); let x8 ← (pure (.int 0)); idxD x7 x8); let x12 ← (do let x9 ← (pure v_log); let x10 ← (pure []); pure (x9 :: x10)); pure (x11 :: x12)); (do let r ← den__law_flags x13; pure (.lst r))) else (do let x24 ← (do let x22 ← (do let x14 ← (pure v_rules); let x15 ← (pure (.int 0)); idxD x14 x15); let x23 ← (do let x20 ← (do let x16 ← (pure v_rules); let x17 ← (pure (.int 1)); idxD x16 x17); let x21 ← (do let x18 ← (pure v_log); let x19 ← (pure []); pure (x18 :: x19)); pure (x20 :: x21)); pure (x22 :: x23)); (do let r ← den__law_series x24; pure (.lst r)))
def den__law_list_flags : List D → W D
  | [v_rules, v_log] => dn__law_list_flags v_rules v_log
  | _ => stuck

def dn__law_similar (v_rules : D) : W D := ((do let x3 ← (do let x1 ← (pure v_rules); let x2 ← (pure []); pure (x1 :: x2)); listD x3) >>= fun s5 => ((do let d ← (do let x13 ← (do let x11 ← (pure .bag); let x12 ← (do let x9 ← (do let x8 ← (do let x6 ← (pure (.lst s5)); let x7 ← (pure []); pure (x6 :: x7)); lenD x8); let x10 ← (pure []); pure (x9 :: x10)); pure (x11 :: x12)); takeD x13); solidW d) >>= fun s15 => ((do let x21 ← (do let d ← (do let x16 ← (pure (.lst s5)); let x17 ← (pure s15); idxD x16 x17); solidW d); (patTup 2 (patCons pure (patOne pure))) x21) >>= fun s23 => ((do let x28 ← (do let x26 ← (pure .bag); let x27 ← (do let x24 ← (pure (.int 4)); let x25 ← (pure []); pure (x24 :: x25)); pure (x26 :: x27)); takeD x28) >>= fun s30 => ((do let t34 ← (do let x31 ← (pure s30); let x32 ← (pure (.int 0)); let x33 ← eqD x31 x32; boolD x33); if t34 then ((do let x53 ← (do let x52 ← (do let x50 ← (pure s23.1); let x51 ← (do let x48 ← (do let x47 ← (do let x45 ← (pure (.int 1)); let x46 ← (do let x43 ← (do let x42 ← (do let x40 ← (pure (.int 6)); let x41 ← (do let x38 ← (do let x36 ← (pure s23.2); let x37 ← (pure (.int 1)); addD x36 x37); let x39 ← (pure []); pure (x38 :: x39)); pure (x40 :: x41)); minD x42); let x44 ← (pure []); pure (x43 :: x44)); pure (x45 :: x46)); maxD x47); let x49 ← (pure []); pure (x48 :: x49)); pure (x50 :: x51)); pure (.tup x52)); let x54 ← (pure s15); lput s5 x54 x53) >>= fun s56 => (pure s56)) else ((do let t60 ← (do let x57 ← (pure s30); let x58 ← (pure (.int 1)); let x59 ← eqD x57 x58; boolD x59); if t60 then ((do let x77 ← (do let x76 ← (do let x74 ← (do let x71 ← (do let x68 ← (pure (.str "recent")); let x69 ← (do let x66 ← (pure (.str "last")); let x67 ← (do let x64 ← (pure (.str "renew")); let x65 ← (do let x62 ← (pure (.str "hold")); let x63 ← (pure []); pure (x62 :: x63)); pure (x64 :: x65)); pure (x66 :: x67)); pure (x68 :: x69)); let x70 ← (pure s23.1); kget (dispT ["last", "recent", "hold", "renew"] x71) x70); let x75 ← (do let x72 ← (pure s23.2); let x73 ← (pure []); pure (x72 :: x73)); pure (x74 :: x75)); pure (.tup x76)); let x78 ← (pure s15); lput s5 x78 x77) >>= fun s80 => (pure s80)) else ((do let t84 ← (do let x81 ← (pure s30); let x82 ← (pure (.int 2)); let x83 ← eqD x81 x82; boolD x83); if t84 then ((do let d ← (do let x86 ← (pure (.lst s5)); let x87 ← lstD x86; pure x87.reverse); solidsW d) >>= fun s89 => (pure s89)) else ((do let d ← (do let x109 ← (do let x105 ← (pure (.lst s5)); let x106 ← (do let x104 ← (do let x102 ← (do let x101 ← (do let x99 ← (pure s23.1); let x100 ← (do let x97 ← (do let x95 ← (pure (.int 1)); let x96 ← (do let x94 ← (do let x92 ← (pure .bag); let x93 ← (do let x90 ← (pure s23.2); let x91 ← (pure []); pure (x90 :: x91)); pure (x92 :: x93)); takeD x94); addD x95 x96); let x98 ← (pure []); pure (x97 :: x98)); pure (x99 :: x100)); pure (.tup x101)); let x103 ← (pure []); pure (x102 :: x103)); pure (.lst x104)); addD x105 x106); let x110 ← (pure none); let x111 ← (do let x107 ← (pure (.int 2)); let x108 ← intD x107; pure (some x108)); let x112 ← lstD x109; pure (cutL x112 x110 x111)); solidsW d) >>= fun s114 => (pure s114))) >>= fun s115 => (pure s115))) >>= fun s116 => (pure s116))) >>= fun s117 => (do let x120 ← (do let x118 ← (pure (.lst s117)); let x119 ← (pure []); pure (x118 :: x119)); tupleD x120))))))
def den__law_similar : List D → W D
  | [.bag, v_rules] => dn__law_similar v_rules
  | _ => stuck

def dn__law_logs (v_length : D) : W D := ((do let x4 ← (do let x2 ← (do let x1 ← (pure []); pure (.tup x1)); let x3 ← (pure []); pure (x2 :: x3)); pure (.lst x4)) >>= fun s6 => ((do let ds ← (do let x9 ← (do let x7 ← (pure v_length); let x8 ← (pure []); pure (x7 :: x8)); rng1D x9); forW ds s6 fun d10 (s11 : D) => pure d10 >>= fun t12 => ((do let x15 ← (pure []); pure (.lst x15)) >>= fun s17 => ((do let ds ← (do let x18 ← (pure s11); seqD x18); forW ds s17 fun d19 (s20 : D) => pure d19 >>= fun t21 => ((do let ds ← (do let x31 ← (do let x29 ← (do let x28 ← (do let x25 ← (pure t21); let x26 ← (do let x24 ← (pure []); pure (.tup x24)); let x27 ← neD x25 x26; boolD x27); if x28 then (pure (.int 3)) else (pure (.int 1))); let x30 ← (pure []); pure (x29 :: x30)); rng1D x31); forW ds s20 fun d32 (s33 : D) => pure d32 >>= fun t34 => ((do let x48 ← (do let x38 ← (pure t21); let x39 ← (do let x37 ← (pure []); pure (.tup x37)); let x40 ← neD x38 x39; boolD x40); if x48 then (do let x46 ← (do let x44 ← (do let x42 ← (pure t21); let x43 ← (do let x41 ← (pure (.int 1)); negD x41); idxD x42 x43); let x45 ← (pure (.int 0)); idxD x44 x45); let x47 ← (pure t34); addD x46 x47) else (pure (.int 0))) >>= fun s50 => ((do let x88 ← (pure s33); let x89 ← (do let x87 ← (do let x85 ← (do let x59 ← (pure t21); let x60 ← (do let x58 ← (do let x56 ← (do let x55 ← (do let x53 ← (pure s50); let x54 ← (do let x51 ← (pure (.str "a")); let x52 ← (pure []); pure (x51 :: x52)); pure (x53 :: x54)); pure (.tup x55)); let x57 ← (pure []); pure (x56 :: x57)); pure (.tup x58)); addD x59 x60); let x86 ← (do let x83 ← (do let x69 ← (pure t21); let x70 ← (do let x68 ← (do let x66 ← (do let x65 ← (do let x63 ← (pure s50); let x64 ← (do let x61 ← (pure (.str "b")); let x62 ← (pure []); pure (x61 :: x62)); pure (x63 :: x64)); pure (.tup x65)); let x67 ← (pure []); pure (x66 :: x67)); pure (.tup x68)); addD x69 x70); let x84 ← (do let x81 ← (do let x79 ← (pure t21); let x80 ← (do let x78 ← (do let x76 ← (do let x75 ← (do let x73 ← (pure s50); let x74 ← (do let x71 ← (pure (.str "c")); let x72 ← (pure []); pure (x71 :: x72)); pure (x73 :: x74)); pure (.tup x75)); let x77 ← (pure []); pure (x76 :: x77)); pure (.tup x78)); addD x79 x80); let x82 ← (pure []); pure (x81 :: x82)); pure (x83 :: x84)); pure (x85 :: x86)); pure (.lst x87)); addD x88 x89) >>= fun s91 => (pure s91)))) >>= fun s92 => (pure s92))) >>= fun s93 => ((pure s93) >>= fun s95 => (pure s95))))) >>= fun s96 => (pure s96)))
def den__law_logs : List D → W D
  | [v_length] => dn__law_logs v_length
  | _ => stuck

def dn__law_telling (v_one : D) (v_other : D) (v_length : D) : W D := do let o ← (do let ds ← (do let x7 ← (do let x5 ← (pure (.int 1)); let x6 ← (do let x3 ← (do let x1 ← (pure v_length); let x2 ← (pure (.int 1)); addD x1 x2); let x4 ← (pure []); pure (x3 :: x4)); pure (x5 :: x6)); rng2D x7); forX ds () fun d8 (s9 : Unit) => pure d8 >>= fun t10 => (do let o ← (do let ds ← (do let x16 ← (do let x15 ← (do let x13 ← (pure t10); let x14 ← (pure []); pure (x13 :: x14)); den__law_logs x15); seqD x16); forX ds () fun d17 (s18 : Unit) => pure d17 >>= fun t19 => (do let t41 ← (do let x38 ← (do let x28 ← (do let x26 ← (do let x24 ← (pure v_one); let x25 ← (do let x22 ← (pure t19); let x23 ← (pure []); pure (x22 :: x23)); pure (x24 :: x25)); den__law_list_flags x26); let x29 ← (do let x27 ← (pure (.int 1)); negD x27); idxD x28 x29); let x39 ← (do let x36 ← (do let x34 ← (do let x32 ← (pure v_other); let x33 ← (do let x30 ← (pure t19); let x31 ← (pure []); pure (x30 :: x31)); pure (x32 :: x33)); den__law_list_flags x34); let x37 ← (do let x35 ← (pure (.int 1)); negD x35); idxD x36 x37); let x40 ← neD x38 x39; boolD x40); if t41 then (do let d ← (pure t19); pure (.rt d)) else (pure (.nx ())))); out2W (fun _ => (pure (.nx ()))) o)); outW (fun _ => (pure .non)) o
def den__law_telling : List D → W D
  | [v_one, v_other, v_length] => dn__law_telling v_one v_other v_length
  | _ => stuck

def errX : List Str := ["InvalidGate", "InvalidLength"]

def dnB_law (ns : List Int) : W (Out Unit) := ((do let x3 ← (do let x1 ← (pure .bag); let x2 ← (pure []); pure (x1 :: x2)); den__law_list x3) >>= fun s5 => (do let o ← (do let ds ← (do let x19 ← (do let x18 ← (do let x16 ← (do let x10 ← (do let x8 ← (pure .bag); let x9 ← (do let x6 ← (pure s5); let x7 ← (pure []); pure (x6 :: x7)); pure (x8 :: x9)); den__law_similar x10); let x17 ← (do let x14 ← (do let x13 ← (do let x11 ← (pure .bag); let x12 ← (pure []); pure (x11 :: x12)); den__law_list x13); let x15 ← (pure []); pure (x14 :: x15)); pure (x16 :: x17)); pure (.tup x18)); seqD x19); forX ds () fun d20 (s21 : Unit) => pure d20 >>= fun t22 => ((do let x30 ← (pure (.int 1)); let x31 ← (do let x29 ← (do let x27 ← (pure .bag); let x28 ← (do let x25 ← (pure (.int 4)); let x26 ← (pure []); pure (x25 :: x26)); pure (x27 :: x28)); takeD x29); addD x30 x31) >>= fun s33 => ((do let x40 ← (do let x38 ← (pure s5); let x39 ← (do let x36 ← (pure t22); let x37 ← (do let x34 ← (pure s33); let x35 ← (pure []); pure (x34 :: x35)); pure (x36 :: x37)); pure (x38 :: x39)); den__law_telling x40) >>= fun s42 => (do let t64 ← (do let x63 ← (do let x50 ← (do let x49 ← (do let x47 ← (pure s5); let x48 ← (do let x45 ← (pure t22); let x46 ← (do let x43 ← (pure s33); let x44 ← (pure []); pure (x43 :: x44)); pure (x45 :: x46)); pure (x47 :: x48)); den_telling_log x49); let x51 ← (pure s42); let x52 ← neD x50 x51; boolD x52); if x63 then pure true else (do let x60 ← (do let x59 ← (do let x57 ← (pure t22); let x58 ← (do let x55 ← (pure s5); let x56 ← (do let x53 ← (pure s33); let x54 ← (pure []); pure (x53 :: x54)); pure (x55 :: x56)); pure (x57 :: x58)); den_telling_log x59); let x61 ← (pure s42); let x62 ← neD x60 x61; boolD x62)); if t64 then (do let d ← (pure (.bl false)); pure (.rt d)) else (pure (.nx ())))))); out2W (fun _ => (do let t76 ← (do let x73 ← (do let x72 ← (do let x70 ← (pure s5); let x71 ← (do let x68 ← (pure s5); let x69 ← (do let x66 ← (pure (.int 3)); let x67 ← (pure []); pure (x66 :: x67)); pure (x68 :: x69)); pure (x70 :: x71)); den_telling_log x72); let x74 ← (pure .non); let x75 ← isNotD x73 x74; boolD x75); if t76 then (do let d ← (pure (.bl false)); pure (.rt d)) else (do let o ← (do let ds ← (do let x119 ← (do let x118 ← (do let x116 ← (pure .non); let x117 ← (do let x114 ← (do let x77 ← (pure []); pure (.tup x77)); let x115 ← (do let x112 ← (do let x78 ← (pure s5); let x79 ← (pure (.int 0)); idxD x78 x79); let x113 ← (do let x110 ← (do let x83 ← (do let x82 ← (do let x80 ← (pure s5); let x81 ← (pure []); pure (x80 :: x81)); listD x82); pure (.lst x83)); let x111 ← (do let x108 ← (do let x91 ← (do let x89 ← (do let x88 ← (do let x86 ← (pure (.str "last")); let x87 ← (do let x84 ← (pure (.int 7)); let x85 ← (pure []); pure (x84 :: x85)); pure (x86 :: x87)); pure (.tup x88)); let x90 ← (pure []); pure (x89 :: x90)); pure (.tup x91)); let x109 ← (do let x106 ← (do let x92 ← (pure s5); let x93 ← (pure (.int 3)); mulD x92 x93); let x107 ← (do let x104 ← (do let x103 ← (do let x101 ← (do let x98 ← (do let x96 ← (pure (.str "last")); let x97 ← (do let x94 ← (pure (.int 1)); let x95 ← (pure []); pure (x94 :: x95)); pure (x96 :: x97)); pure (.tup x98)); let x102 ← (do let x99 ← (pure .non); let x100 ← (pure []); pure (x99 :: x100)); pure (x101 :: x102)); pure (.tup x103)); let x105 ← (pure []); pure (x104 :: x105)); pure (x106 :: x107)); pure (x108 :: x109)); pure (x110 :: x111)); pure (x112 :: x113)); pure (x114 :: x115)); pure (x116 :: x117)); pure (.tup x118)); seqD x119); forX ds () fun d120 (s121 : Unit) => pure d120 >>= fun t122 => (do let t140 ← (do let x137 ← (do let r ← (do let x131 ← (do let x129 ← (pure t122); let x130 ← (do let x127 ← (pure .non); let x128 ← (do let x125 ← (pure .non); let x126 ← (pure []); pure (x125 :: x126)); pure (x127 :: x128)); pure (x129 :: x130)); catchF errX (den_telling_log x131)); pure (.lst r)); let x138 ← (do let x136 ← (do let x134 ← (pure (.str "InvalidGate")); let x135 ← (do let x132 ← (pure (.bl true)); let x133 ← (pure []); pure (x132 :: x133)); pure (x134 :: x135)); pure (.lst x136)); let x139 ← neD x137 x138; boolD x139); if t140 then (do let d ← (pure (.bl false)); pure (.rt d)) else (do let t156 ← (do let x153 ← (do let r ← (do let x147 ← (do let x145 ← (pure s5); let x146 ← (do let x143 ← (pure t122); let x144 ← (do let x141 ← (pure .non); let x142 ← (pure []); pure (x141 :: x142)); pure (x143 :: x144)); pure (x145 :: x146)); catchF errX (den_telling_log x147)); pure (.lst r)); let x154 ← (do let x152 ← (do let x150 ← (pure (.str "InvalidGate")); let x151 ← (do let x148 ← (pure (.bl true)); let x149 ← (pure []); pure (x148 :: x149)); pure (x150 :: x151)); pure (.lst x152)); let x155 ← neD x153 x154; boolD x155); if t156 then (do let d ← (pure (.bl false)); pure (.rt d)) else (pure (.nx ()))))); out2W (fun _ => (do let o ← (do let ds ← (do let x167 ← (do let x166 ← (do let x164 ← (pure (.int 0)); let x165 ← (do let x162 ← (pure (.int 6)); let x163 ← (do let x160 ← (pure (.bl true)); let x161 ← (do let x158 ← (pure .non); let x159 ← (pure []); pure (x158 :: x159)); pure (x160 :: x161)); pure (x162 :: x163)); pure (x164 :: x165)); pure (.tup x166)); seqD x167); forX ds () fun d168 (s169 : Unit) => pure d168 >>= fun t170 => (do let t188 ← (do let x185 ← (do let r ← (do let x179 ← (do let x177 ← (pure s5); let x178 ← (do let x175 ← (pure s5); let x176 ← (do let x173 ← (pure t170); let x174 ← (pure []); pure (x173 :: x174)); pure (x175 :: x176)); pure (x177 :: x178)); catchF errX (den_telling_log x179)); pure (.lst r)); let x186 ← (do let x184 ← (do let x182 ← (pure (.str "InvalidLength")); let x183 ← (do let x180 ← (pure (.bl true)); let x181 ← (pure []); pure (x180 :: x181)); pure (x182 :: x183)); pure (.lst x184)); let x187 ← neD x185 x186; boolD x187); if t188 then (do let d ← (pure (.bl false)); pure (.rt d)) else (pure (.nx ())))); out2W (fun _ => (pure (.nx ()))) o)) o))) o))
def dnR_law (ns : List Int) : W D := do let t231 ← (do let x228 ← (do let x212 ← (do let x210 ← (do let x197 ← (do let x195 ← (do let x194 ← (do let x192 ← (pure (.str "hold")); let x193 ← (do let x190 ← (pure (.int 1)); let x191 ← (pure []); pure (x190 :: x191)); pure (x192 :: x193)); pure (.tup x194)); let x196 ← (pure []); pure (x195 :: x196)); pure (.tup x197)); let x211 ← (do let x208 ← (do let x205 ← (do let x203 ← (do let x202 ← (do let x200 ← (pure (.str "hold")); let x201 ← (do let x198 ← (pure (.int 2)); let x199 ← (pure []); pure (x198 :: x199)); pure (x200 :: x201)); pure (.tup x202)); let x204 ← (pure []); pure (x203 :: x204)); pure (.tup x205)); let x209 ← (do let x206 ← (pure (.int 3)); let x207 ← (pure []); pure (x206 :: x207)); pure (x208 :: x209)); pure (x210 :: x211)); den_telling_log x212); let x229 ← (do let x227 ← (do let x225 ← (do let x217 ← (do let x215 ← (pure (.int 0)); let x216 ← (do let x213 ← (pure (.str "a")); let x214 ← (pure []); pure (x213 :: x214)); pure (x215 :: x216)); pure (.tup x217)); let x226 ← (do let x223 ← (do let x222 ← (do let x220 ← (pure (.int 1)); let x221 ← (do let x218 ← (pure (.str "a")); let x219 ← (pure []); pure (x218 :: x219)); pure (x220 :: x221)); pure (.tup x222)); let x224 ← (pure []); pure (x223 :: x224)); pure (x225 :: x226)); pure (.tup x227)); let x230 ← neD x228 x229; boolD x230); if t231 then (pure (.bl false)) else (do let x277 ← (do let x254 ← (do let x252 ← (do let x239 ← (do let x237 ← (do let x236 ← (do let x234 ← (pure (.str "last")); let x235 ← (do let x232 ← (pure (.int 1)); let x233 ← (pure []); pure (x232 :: x233)); pure (x234 :: x235)); pure (.tup x236)); let x238 ← (pure []); pure (x237 :: x238)); pure (.tup x239)); let x253 ← (do let x250 ← (do let x247 ← (do let x245 ← (do let x244 ← (do let x242 ← (pure (.str "last")); let x243 ← (do let x240 ← (pure (.int 2)); let x241 ← (pure []); pure (x240 :: x241)); pure (x242 :: x243)); pure (.tup x244)); let x246 ← (pure []); pure (x245 :: x246)); pure (.tup x247)); let x251 ← (do let x248 ← (pure (.int 5)); let x249 ← (pure []); pure (x248 :: x249)); pure (x250 :: x251)); pure (x252 :: x253)); den_telling_log x254); let x278 ← (do let x276 ← (do let x274 ← (do let x259 ← (do let x257 ← (pure (.int 0)); let x258 ← (do let x255 ← (pure (.str "a")); let x256 ← (pure []); pure (x255 :: x256)); pure (x257 :: x258)); pure (.tup x259)); let x275 ← (do let x272 ← (do let x264 ← (do let x262 ← (pure (.int 0)); let x263 ← (do let x260 ← (pure (.str "b")); let x261 ← (pure []); pure (x260 :: x261)); pure (x262 :: x263)); pure (.tup x264)); let x273 ← (do let x270 ← (do let x269 ← (do let x267 ← (pure (.int 0)); let x268 ← (do let x265 ← (pure (.str "a")); let x266 ← (pure []); pure (x265 :: x266)); pure (x267 :: x268)); pure (.tup x269)); let x271 ← (pure []); pure (x270 :: x271)); pure (x272 :: x273)); pure (x274 :: x275)); pure (.tup x276)); eqD x277 x278)

end DG

/-! ## DG32 -/
set_option Elab.async false
set_option linter.all false
set_option maxRecDepth 100000
set_option maxHeartbeats 4000000
namespace DG
open PySem PySem.Spec PyProof.Rows L2

/-! ### sorted(xs), a list of triples: two whole numbers and a text -/
abbrev T3 := Int × Int × Str
def t3D (t : T3) : D := .tup [.int t.1, .int t.2.1, .str t.2.2]
def t3P (t : T3) : PyData := .tuple [.int t.1, .int t.2.1, .str t.2.2]
def t3? : D → Option T3
  | .tup [.int a, .int b, .str x] => some (a, b, x)
  | _ => none
theorem t3?_eq : ∀ (d : D) (t : T3), t3? d = some t → d = t3D t := fun d t h => by
  unfold t3? at h
  split at h
  · cases h
    rfl
  · cases h
def sorted3D : List D → W (List D)
  | [.lst ds] => optW (allOf t3? ds) fun ts => need (ds.length ≤ line) (do let ys ← anyW (fun ys : List T3 => ys.Perm ts ∧ ys.Pairwise fun a b => a.1 ≤ b.1); pure (ys.map t3D))
  | _ => stuck
theorem each_vals {β : Type} {R : Value → β → Prop} : ∀ {vs : List V} {us : List Value} {ts : List β}, Vals vs us → vs.length = ts.length → (∀ p ∈ vs.zip ts, ∀ u, RelV p.1 u → R u p.2) → PySem.W.EachIs R us ts
  | [], _, [], .nil, _, _ => .nil
  | [], _, _ :: _, .nil, h, _ => by simp at h
  | _ :: _, _, [], .cons _ _, h, _ => by simp at h
  | v :: vs, _, t :: ts, .cons r rs, h, k => .cons (k (v, t) (by simp) _ r) (each_vals rs (by simpa using h) fun p hp u hu => k p (by simp [hp]) u hu)
theorem each_back : ∀ {bs : List (V × T3)} {us : List Value}, PySem.W.EachIs (fun (u : Value) (b : V × T3) => RelV b.1 u) us bs → Vals (bs.map (·.1)) us
  | _, _, .nil => .nil
  | _, _, .cons h r => .cons h (each_back r)
theorem isL_map {K : PySem.W.Frag} {M B : Addr → Prop} {H : Hp} {β : Type} {f : β → D} {g : β → V} : ∀ {bs : List β}, (∀ b ∈ bs, Is K M B H (f b) (g b)) → IsL K M B H (bs.map f) (bs.map g)
  | [], _ => rfl
  | b :: bs, h => ⟨g b, bs.map g, rfl, h b List.mem_cons_self, isL_map fun x m => h x (List.mem_cons_of_mem _ m)⟩
theorem t3_first {a b : T3} (h : PySem.W.dataLe (β := T3) false t3P a b = true) : a.1 ≤ b.1 := by
  rw [PySem.W.dataLe_eq] at h
  have h' : (!PySem.W.dataLt (t3P b) (t3P a)) = true := h
  have ev : PyData.eqv (.int b.1) (.int a.1) = decide (b.1 = a.1) := by
    by_cases h : b.1 = a.1 <;> simp [PyData.eqv, h]
  by_cases q : b.1 = a.1
  · omega
  · have e : PySem.W.dataLt (t3P b) (t3P a) = PySem.W.dataLt (.int b.1) (.int a.1) := by
      unfold t3P
      rw [PySem.W.dataLt_tuple]
      exact PySem.W.dataLt_all_no (x := .int b.1) (y := .int a.1) rfl (by rw [ev]; exact decide_eq_false q)
    rw [e, PySem.W.dataLt_int] at h'
    simp at h'
    omega
/-- the rule by values -/
theorem cr_sorted3 {X : Cx} (hu : X.A.units + 66 < cLine) : CallR X (.builtin "sorted") (fun xs H Q => ∃ (a : Addr) (bs : List (V × T3)), xs = [.ref a] ∧ SqL X.K H a (bs.map (·.1)) ∧ (∀ b ∈ bs, Dp X.K H b.1 (t3P b.2)) ∧
    ∀ (cs : List (V × T3)) (p : Addr), cs.Perm bs → cs.Pairwise (fun a b => a.2.1 ≤ b.2.1) → H p = none → Q (.ref p) (upd H p (.lst (cs.map (·.1))))) := by
  intro pins s σ H xs us Q I r h
  obtain ⟨a, bs, rfl, hq, hd, q⟩ := h
  obtain ⟨u, rfl, ru⟩ := Vals.one r
  cases ru
  obtain ⟨its, rv, pl, hz⟩ := I.list hq
  have e : PySem.W.EachIs (fun (u : Value) (b : V × T3) => RelV b.1 u) its bs := each_vals rv (by rw [List.length_map]) fun p hp u hu => by
    rw [List.zip_map_left] at hp
    obtain ⟨⟨b, b'⟩, hb, rfl⟩ := List.mem_map.mp hp
    have hbb : b = b' := by
      have : ∀ (l : List (V × T3)) (x y : V × T3), (x, y) ∈ l.zip l → x = y := fun l => by
        induction l with
        | nil => intro x y h; cases h
        | cons c l ih =>
          intro x y h
          rw [List.zip_cons_cons, List.mem_cons] at h
          rcases h with h | h
          · cases h; rfl
          · exact ih x y h
      exact this bs b b' hb
    subst hbb
    exact hu
  have er : PySem.W.EachIs (fun v (b : V × T3) => ∃ as, Reads s.heap v (t3P b.2) as) its bs := by
    have h2 : PySem.W.EachIs (fun (u : Value) (b : V × T3) => RelV b.1 u ∧ b ∈ bs) its bs := PySem.W.each_mem e
    exact h2.mono fun u b ⟨h3, h4⟩ => Dp.reads I _ _ _ (hd b h4) h3
  refine PySem.W.sorted_data (enc := fun b : V × T3 => t3P b.2) pl.isList e er (PySem.W.AllAlike.of fun _ _ => rfl) (PySem.W.Sortable.tuples fun b => ⟨_, _, rfl⟩) (by rw [← List.length_map (f := fun b : V × T3 => b.1)]; exact hz) (fun b _ => ?_) fun out ho eo => ?_
  · have : (t3P b.2).depth ≤ 64 := by
      unfold t3P
      simp [PyData.depth, PyData.depthAll]
    omega
  · have tl : PySem.W.TotalLe (PySem.W.dataLe false fun b : V × T3 => t3P b.2) := PySem.W.sortLe_total _ _ _
    have pw := PySem.W.sort_pairwise tl bs
    obtain ⟨n, hn⟩ := sortedAll_at s.heap its out.toArray
    have hlen : (bs.mergeSort (PySem.W.dataLe false fun b : V × T3 => t3P b.2)).length = bs.length := List.length_mergeSort ..
    refine ⟨.ref (s.heap.objs.size + 1), upd H (s.heap.objs.size + 1) (.lst ((bs.mergeSort (PySem.W.dataLe false fun b : V × T3 => t3P b.2)).map (·.1))), I.laid (t' := s.toks) (fun b o e => sortedAll_old e) (Nat.le_succ _) ?_, rfl, q _ _ (List.mergeSort_perm _ _) (pw.imp fun h => t3_first h) (I.hok.fresh (Nat.le_succ _))⟩
    refine ⟨?_, out, n, each_back eo, hn⟩
    rw [List.length_map, hlen, ← List.length_map (f := fun b : V × T3 => b.1)]
    exact hz
theorem cf_sorted3 {X : Cx} {k : Nat} (hr : Room k X.A) : CallF X (.builtin "sorted") sorted3D := by
  have hu : X.A.units + 66 < cLine := by have := hr.un; omega
  refine ⟨_, cr_sorted3 hu, fun Mb M B H ds vs P EE Q o il p q => ?_⟩
  have one : ∃ x, ds = [.lst x] := by
    unfold sorted3D at p
    split at p
    · exact ⟨_, rfl⟩
    · exact False.elim p
  obtain ⟨x, rfl⟩ := one
  obtain ⟨v, e, i⟩ := isOne il
  obtain ⟨a, ws, e1, nm, l, is⟩ := isLs i
  have p' : (optW (allOf t3? x) fun ts => need (x.length ≤ line) (do let ys ← anyW (fun ys : List T3 => ys.Perm ts ∧ ys.Pairwise fun a b => a.1 ≤ b.1); pure (ys.map t3D)) : W (List D)) P EE := p
  cases hb : allOf t3? x with
  | none => rw [hb] at p'; exact False.elim p'
  | some ts =>
    rw [hb] at p'
    obtain ⟨_, p2⟩ := p'
    have ex := allOf_eq t3?_eq hb
    subst ex
    have hlen : ws.length = ts.length := by rw [is.len, List.length_map]
    have hz1 : (ws.zip ts).map (·.1) = ws := List.map_fst_zip (by omega)
    have pt : ∀ b ∈ ws.zip ts, Is X.K M B H (t3D b.2) b.1 := fun b hb => by
      obtain ⟨j, hj, ej⟩ := List.getElem_of_mem hb
      rw [List.getElem_zip] at ej
      have hj1 : j < ws.length := by rw [List.length_zip] at hj; omega
      have hj2 : j < ts.length := by omega
      obtain ⟨v, ev, iv⟩ := is.get (i := j) (d := t3D ts[j]) (by rw [List.getElem?_map, List.getElem?_eq_getElem hj2]; rfl)
      rw [List.getElem?_eq_getElem hj1] at ev
      cases ev
      rw [← ej]
      exact iv
    refine ⟨a, ws.zip ts, by rw [e, e1], by rw [hz1]; exact .of l, fun b hb => ?_, fun cs c pm pw n => ?_⟩
    · have := pt b hb
      obtain ⟨a2, vs2, e2, s2, il2⟩ := isT this
      obtain ⟨v1, r1, q1, j1, k1⟩ := il2
      obtain ⟨v2, v3, q2, j2, j3⟩ := isTwo k1
      rw [e2]
      rw [q1, q2, show v1 = .int b.2.1 from j1, show v2 = .int b.2.2.1 from j2, show v3 = .str b.2.2.2 from j3] at s2
      exact .tup s2.sqT (.cons (.int _) (.cons (.int _) (.cons (.str _) .nil)))
    · have h2 : (cs.map (·.2)).Perm ts := by
        have := pm.map (·.2)
        rwa [List.map_snd_zip (by omega)] at this
      have pd := p2 (cs.map (·.2)) ⟨h2, List.pairwise_map.mpr pw⟩
      have il3 : IsL X.K M B H ((cs.map (·.2)).map t3D) (cs.map (·.1)) := by
        rw [List.map_map]
        exact isL_map fun b hb => pt b (pm.mem_iff.mp hb)
      exact q.new o pd il3 n
end DG

/-! ## Gk17 -/
set_option Elab.async false
set_option linter.all false
set_option maxRecDepth 100000
set_option maxHeartbeats 4000000
namespace DG
open PySem PySem.Spec PyProof.Rows L2

def topS (i : Nat) : Stmt := PySem.Challenge.pw_dedupgate_k17_telling_logs_by_search.main.body.getD i (.Pass ⟨0, 0, 0, 0⟩)
section
variable {P : Program} {w : World} {K : PySem.W.Frag} {mg : Str → Option Value} {base : Heap}
abbrev st_is_integer : Stmt := topS 19
def N_is_integer : List Str := ["value", "low", "high"]
theorem wk_is_integer (b_bool : mg "bool" = none) (b_int : mg "int" = none) (b_isinstance : mg "isinstance" = none) {f : Addr} {cdv : Value} {A : Around} {outer : List Env} {s : Shared} {H : Hp} {E : XK} (C : Cd (cx P w K mg base N_is_integer "is_integer" st_is_integer f cdv A outer s H E) E 0) (v_value : D) (v_low : D) (v_high : D) :
    SR (cx P w K mg base N_is_integer "is_integer" st_is_integer f cdv A outer s H E) E true (defBody st_is_integer) [.d v_value, .d v_low, .d v_high] (dn_is_integer v_value v_low v_high) :=
  (sr_ret (ρ' := [.d v_value, .d v_low, .d v_high]) (ex_and (ex_isi (ex_var 0) b_isinstance b_int boot_int) (ex_and (ex_not (ex_isi (ex_var 0) b_isinstance b_bool boot_bool)) (ex_one (ex_chain (od_le) (od_le) (ex_var 1) (ex_var 0) (ex_var 2))))))
theorem ok_is_integer (b_bool : mg "bool" = none) (b_int : mg "int" = none) (b_isinstance : mg "isinstance" = none) (F : Pk K mg "is_integer" st_is_integer ["value", "low", "high"]) : DefD P w K mg base 1 "is_integer" ["value", "low", "high"] (SpD K mg 3 den_is_integer) :=
  def_okP (N := N_is_integer) F (fsc (by decide +kernel)) fun f cdv A outer s H E C ds h => match ds, h with | [v_value, v_low, v_high], _ => wk_is_integer b_bool b_int b_isinstance C v_value v_low v_high

abbrev st_is_kind : Stmt := topS 20
def N_is_kind : List Str := ["value"]
theorem wk_is_kind (b_isinstance : mg "isinstance" = none) (b_str : mg "str" = none) (g_COUNT_KINDS : GlobD K mg "COUNT_KINDS" c_COUNT_KINDS) (g_TIME_KINDS : GlobD K mg "TIME_KINDS" c_TIME_KINDS) {f : Addr} {cdv : Value} {A : Around} {outer : List Env} {s : Shared} {H : Hp} {E : XK} (C : Cd (cx P w K mg base N_is_kind "is_kind" st_is_kind f cdv A outer s H E) E 0) (v_value : D) :
    SR (cx P w K mg base N_is_kind "is_kind" st_is_kind f cdv A outer s H E) E true (defBody st_is_kind) [.d v_value] (dn_is_kind v_value) :=
  (sr_ret (ρ' := [.d v_value]) (ex_and (ex_isi (ex_var 0) b_isinstance b_str boot_str) (ex_one (ex_cmp (od_in) (ex_var 0) (ex_bin od_add (ex_globF g_COUNT_KINDS) (ex_globF g_TIME_KINDS))))))
theorem ok_is_kind (b_isinstance : mg "isinstance" = none) (b_str : mg "str" = none) (g_COUNT_KINDS : GlobD K mg "COUNT_KINDS" c_COUNT_KINDS) (g_TIME_KINDS : GlobD K mg "TIME_KINDS" c_TIME_KINDS) (F : Pk K mg "is_kind" st_is_kind ["value"]) : DefD P w K mg base 1 "is_kind" ["value"] (SpD K mg 1 den_is_kind) :=
  def_okP (N := N_is_kind) F (fsc (by decide +kernel)) fun f cdv A outer s H E C ds h => match ds, h with | [v_value], _ => wk_is_kind b_isinstance b_str g_COUNT_KINDS g_TIME_KINDS C v_value

abbrev st_largest_size : Stmt := topS 21
def N_largest_size : List Str := ["kind"]
theorem wk_largest_size (g_COUNT_KINDS : GlobD K mg "COUNT_KINDS" c_COUNT_KINDS) (g_MAX_COUNT : GlobD K mg "MAX_COUNT" c_MAX_COUNT) (g_MAX_TICK : GlobD K mg "MAX_TICK" c_MAX_TICK) {f : Addr} {cdv : Value} {A : Around} {outer : List Env} {s : Shared} {H : Hp} {E : XK} (C : Cd (cx P w K mg base N_largest_size "largest_size" st_largest_size f cdv A outer s H E) E 0) (v_kind : D) :
    SR (cx P w K mg base N_largest_size "largest_size" st_largest_size f cdv A outer s H E) E true (defBody st_largest_size) [.d v_kind] (dn_largest_size v_kind) :=
  (sr_ret (ρ' := [.d v_kind]) (ex_ife (et_cmp (od_in) (ex_var 0) (ex_globF g_COUNT_KINDS)) (ex_globF g_MAX_COUNT) (ex_globF g_MAX_TICK)))
theorem ok_largest_size (g_COUNT_KINDS : GlobD K mg "COUNT_KINDS" c_COUNT_KINDS) (g_MAX_COUNT : GlobD K mg "MAX_COUNT" c_MAX_COUNT) (g_MAX_TICK : GlobD K mg "MAX_TICK" c_MAX_TICK) (F : Pk K mg "largest_size" st_largest_size ["kind"]) : DefD P w K mg base 1 "largest_size" ["kind"] (SpD K mg 1 den_largest_size) :=
  def_okP (N := N_largest_size) F (fsc (by decide +kernel)) fun f cdv A outer s H E C ds h => match ds, h with | [v_kind], _ => wk_largest_size g_COUNT_KINDS g_MAX_COUNT g_MAX_TICK C v_kind

abbrev st_is_rule : Stmt := topS 22
def N_is_rule : List Str := ["value"]
theorem wk_is_rule (b_isinstance : mg "isinstance" = none) (b_len : mg "len" = none) (b_tuple : mg "tuple" = none) (c_is_kind : DefD P w K mg base 1 "is_kind" ["value"] (SpD K mg 1 den_is_kind)) (c_is_integer : DefD P w K mg base 1 "is_integer" ["value", "low", "high"] (SpD K mg 3 den_is_integer)) (c_largest_size : DefD P w K mg base 1 "largest_size" ["kind"] (SpD K mg 1 den_largest_size)) {f : Addr} {cdv : Value} {A : Around} {outer : List Env} {s : Shared} {H : Hp} {E : XK} (C : Cd (cx P w K mg base N_is_rule "is_rule" st_is_rule f cdv A outer s H E) E 1) (v_value : D) :
    SR (cx P w K mg base N_is_rule "is_rule" st_is_rule f cdv A outer s H E) E true (defBody st_is_rule) [.d v_value] (dn_is_rule v_value) :=
  (sr_ifr (ev_et (ev_or (et_not (et_val (ex_isi (ex_var 0) b_isinstance b_tuple boot_tuple))) (ev_or (et_cmp (od_ne C.hu) (ex_callB cd_len b_len boot_len (ea_cons (ex_var 0) ea_nil)) ex_int) (ev_or1 (et_not (et_val (ex_call c_is_kind C.toCg (by decide) (ea_cons (ex_ix (ex_var 0) ex_int) ea_nil)))))))) (sr_ret (ρ' := [.d v_value]) ex_bl) (sr_ret (ρ' := [.d v_value]) (ex_call c_is_integer C.toCg (by decide) (ea_cons (ex_ix (ex_var 0) ex_int) (ea_cons ex_int (ea_cons (ex_call c_largest_size C.toCg (by decide) (ea_cons (ex_ix (ex_var 0) ex_int) ea_nil)) ea_nil))))))
theorem ok_is_rule (b_isinstance : mg "isinstance" = none) (b_len : mg "len" = none) (b_tuple : mg "tuple" = none) (c_is_kind : DefD P w K mg base 1 "is_kind" ["value"] (SpD K mg 1 den_is_kind)) (c_is_integer : DefD P w K mg base 1 "is_integer" ["value", "low", "high"] (SpD K mg 3 den_is_integer)) (c_largest_size : DefD P w K mg base 1 "largest_size" ["kind"] (SpD K mg 1 den_largest_size)) (F : Pk K mg "is_rule" st_is_rule ["value"]) : DefD P w K mg base 2 "is_rule" ["value"] (SpD K mg 1 den_is_rule) :=
  def_okP (N := N_is_rule) F (fsc (by decide +kernel)) fun f cdv A outer s H E C ds h => match ds, h with | [v_value], _ => wk_is_rule b_isinstance b_len b_tuple c_is_kind c_is_integer c_largest_size C v_value

abbrev st_remembers : Stmt := topS 25
def N_remembers : List Str := ["rule", "state", "tick", "identifier", "names", "ticks"]
theorem wk_remembers (g_COUNT_KINDS : GlobD K mg "COUNT_KINDS" c_COUNT_KINDS) {f : Addr} {cdv : Value} {A : Around} {outer : List Env} {s : Shared} {H : Hp} {E : XK} (C : Cd (cx P w K mg base N_remembers "remembers" st_remembers f cdv A outer s H E) E 0) (v_rule : D) (v_state : D) (v_tick : D) (v_identifier : D) :
    SR (cx P w K mg base N_remembers "remembers" st_remembers f cdv A outer s H E) E true (defBody st_remembers) [.d v_rule, .d v_state, .d v_tick, .d v_identifier, .no, .no] (dn_remembers v_rule v_state v_tick v_identifier) :=
  (sr_cons (s1_unp (st := fun q5 => [.d v_rule, .d v_state, .d v_tick, .d v_identifier, .d q5.1, .d q5.2]) (ex_var 1) (gx_tup C.toCg.calm (gxs_cons (gx_name 4 C.toCg.nd (st := fun v1 => [.d v_rule, .d v_state, .d v_tick, .d v_identifier, .d v1, .no])) fun v2 => (gxs_one (gx_name 5 C.toCg.nd (st := fun v3 => [.d v_rule, .d v_state, .d v_tick, .d v_identifier, .d v2, .d v3])))))) (fun s6 => (sr_ifr (et_cmp (od_notIn) (ex_var 3) (ex_var 4)) (sr_ret (ρ' := [.d v_rule, .d v_state, .d v_tick, .d v_identifier, .d s6.1, .d s6.2]) ex_bl) (sr_ifr (et_cmp (od_in) (ex_ix (ex_var 0) ex_int) (ex_globF g_COUNT_KINDS)) (sr_ret (ρ' := [.d v_rule, .d v_state, .d v_tick, .d v_identifier, .d s6.1, .d s6.2]) ex_bl) (sr_ret (ρ' := [.d v_rule, .d v_state, .d v_tick, .d v_identifier, .d s6.1, .d s6.2]) (ex_cmp (od_lt) (ex_bin od_sub (ex_var 2) (ex_ix (ex_var 5) (ex_index (ex_var 4) (ex_var 3)))) (ex_ix (ex_var 0) ex_int)))))))
theorem ok_remembers (g_COUNT_KINDS : GlobD K mg "COUNT_KINDS" c_COUNT_KINDS) (F : Pk K mg "remembers" st_remembers ["rule", "state", "tick", "identifier"]) : DefD P w K mg base 1 "remembers" ["rule", "state", "tick", "identifier"] (SpD K mg 4 den_remembers) :=
  def_okP (N := N_remembers) F (fsc (by decide +kernel)) fun f cdv A outer s H E C ds h => match ds, h with | [v_rule, v_state, v_tick, v_identifier], _ => wk_remembers g_COUNT_KINDS C v_rule v_state v_tick v_identifier

abbrev st_shortened : Stmt := topS 26
def N_shortened : List Str := ["rule", "state"]
theorem wk_shortened (g_COUNT_KINDS : GlobD K mg "COUNT_KINDS" c_COUNT_KINDS) {f : Addr} {cdv : Value} {A : Around} {outer : List Env} {s : Shared} {H : Hp} {E : XK} (C : Cd (cx P w K mg base N_shortened "shortened" st_shortened f cdv A outer s H E) E 0) (v_rule : D) (v_state : D) :
    SR (cx P w K mg base N_shortened "shortened" st_shortened f cdv A outer s H E) E true (defBody st_shortened) [.d v_rule, .d v_state] (dn_shortened v_rule v_state) :=
  (sr_ifr (et_cmp (od_notIn) (ex_ix (ex_var 0) ex_int) (ex_globF g_COUNT_KINDS)) (sr_ret (ρ' := [.d v_rule, .d v_state]) (ex_var 1)) (sr_ret (ρ' := [.d v_rule, .d v_state]) (ex_tup (ea_cons (ex_slc (ex_ix (ex_var 1) ex_int) (eo_some (ex_bin od_sub ex_int (ex_ix (ex_var 0) ex_int))) eo_none) (ea_cons (ex_slc (ex_ix (ex_var 1) ex_int) (eo_some (ex_bin od_sub ex_int (ex_ix (ex_var 0) ex_int))) eo_none) ea_nil)))))
theorem ok_shortened (g_COUNT_KINDS : GlobD K mg "COUNT_KINDS" c_COUNT_KINDS) (F : Pk K mg "shortened" st_shortened ["rule", "state"]) : DefD P w K mg base 1 "shortened" ["rule", "state"] (SpD K mg 2 den_shortened) :=
  def_okP (N := N_shortened) F (fsc (by decide +kernel)) fun f cdv A outer s H E C ds h => match ds, h with | [v_rule, v_state], _ => wk_shortened g_COUNT_KINDS C v_rule v_state

abbrev st_received : Stmt := topS 27
def N_received : List Str := ["rule", "state", "tick", "identifier", "accept", "names", "ticks", "place"]
theorem wk_received (c_remembers : DefD P w K mg base 1 "remembers" ["rule", "state", "tick", "identifier"] (SpD K mg 4 den_remembers)) (c_shortened : DefD P w K mg base 1 "shortened" ["rule", "state"] (SpD K mg 2 den_shortened)) {f : Addr} {cdv : Value} {A : Around} {outer : List Env} {s : Shared} {H : Hp} {E : XK} (C : Cd (cx P w K mg base N_received "received" st_received f cdv A outer s H E) E 1) (v_rule : D) (v_state : D) (v_tick : D) (v_identifier : D) :
    SR (cx P w K mg base N_received "received" st_received f cdv A outer s H E) E true (defBody st_received) [.d v_rule, .d v_state, .d v_tick, .d v_identifier, .no, .no, .no, .no] (dn_received v_rule v_state v_tick v_identifier) :=
  (sr_cons (s1_set 4 (mk := fun (q12 : D) => [.d v_rule, .d v_state, .d v_tick, .d v_identifier, .d q12, .no, .no, .no]) C.toCg.nd (ex_not (ex_call c_remembers C.toCg (by decide) (ea_cons (ex_var 0) (ea_cons (ex_var 1) (ea_cons (ex_var 2) (ea_cons (ex_var 3) ea_nil))))))) (fun s13 => (sr_ifr (ev_et (ev_and (et_not (et_val (ex_var 4))) (ev_and1 (et_cmp (od_in) (ex_ix (ex_var 0) ex_int) (ex_tup (ea_cons ex_str (ea_cons ex_str ea_nil))))))) (sr_ret (ρ' := [.d v_rule, .d v_state, .d v_tick, .d v_identifier, .d s13, .no, .no, .no]) (ex_tup (ea_cons (ex_var 4) (ea_cons (ex_var 1) ea_nil)))) (sr_cons (s1_unp (st := fun q37 => [.d v_rule, .d v_state, .d v_tick, .d v_identifier, .d s13, .d q37.1, .d q37.2, .no]) (ex_var 1) (gx_tup C.toCg.calm (gxs_cons (gx_name 5 C.toCg.nd (st := fun v33 => [.d v_rule, .d v_state, .d v_tick, .d v_identifier, .d s13, .d v33, .no, .no])) fun v34 => (gxs_one (gx_name 6 C.toCg.nd (st := fun v35 => [.d v_rule, .d v_state, .d v_tick, .d v_identifier, .d s13, .d v34, .d v35, .no])))))) (fun s38 => (sr_cons (s1_if (mk := fun (q43 : D × D) => [.d v_rule, .d v_state, .d v_tick, .d v_identifier, .d s13, .d q43.1, .d q43.2, .no]) (et_cmp (od_in) (ex_var 3) (ex_var 5)) (sn_cons (s1_set 7 (mk := fun (q47 : D) => [.d v_rule, .d v_state, .d v_tick, .d v_identifier, .d s13, .d s38.1, .d s38.2, .d q47]) C.toCg.nd (ex_index (ex_var 5) (ex_var 3))) (fun s48 => (sn_cons (s1_par2 5 6 (mk := fun (q79 : D × D) => [.d v_rule, .d v_state, .d v_tick, .d v_identifier, .d s13, .d q79.1, .d q79.2, .d s48]) C.toCg.calm C.toCg.nd (em_d (ex_bin od_add (ex_slc (ex_var 5) eo_none (eo_some (ex_var 7))) (ex_slc (ex_var 5) (eo_some (ex_bin od_add (ex_var 7) ex_int)) eo_none))) (em_d (ex_bin od_add (ex_slc (ex_var 6) eo_none (eo_some (ex_var 7))) (ex_slc (ex_var 6) (eo_some (ex_bin od_add (ex_var 7) ex_int)) eo_none)))) (fun s80 => (sn_nil (s := (s80.1, s80.2)) ⟨.inr rfl, ⟨.inr rfl, ⟨.inr rfl, ⟨.inr rfl, ⟨.inr rfl, ⟨.inr rfl, ⟨.inr rfl, ⟨.inl rfl, trivial⟩⟩⟩⟩⟩⟩⟩⟩))))) (sn_nil (s := (s38.1, s38.2)) ⟨.inr rfl, ⟨.inr rfl, ⟨.inr rfl, ⟨.inr rfl, ⟨.inr rfl, ⟨.inr rfl, ⟨.inr rfl, ⟨.inl rfl, trivial⟩⟩⟩⟩⟩⟩⟩⟩)) (fun s81 => (sr_ret (ρ' := [.d v_rule, .d v_state, .d v_tick, .d v_identifier, .d s13, .d s81.1, .d s81.2, .no]) (ex_tup (ea_cons (ex_var 4) (ea_cons (ex_call c_shortened C.toCg (by decide) (ea_cons (ex_var 0) (ea_cons (ex_tup (ea_cons (ex_bin od_add (ex_var 5) (ex_tup (ea_cons (ex_var 3) ea_nil))) (ea_cons (ex_bin od_add (ex_var 6) (ex_tup (ea_cons (ex_var 2) ea_nil))) ea_nil))) ea_nil))) ea_nil)))))))))))
theorem ok_received (c_remembers : DefD P w K mg base 1 "remembers" ["rule", "state", "tick", "identifier"] (SpD K mg 4 den_remembers)) (c_shortened : DefD P w K mg base 1 "shortened" ["rule", "state"] (SpD K mg 2 den_shortened)) (F : Pk K mg "received" st_received ["rule", "state", "tick", "identifier"]) : DefD P w K mg base 2 "received" ["rule", "state", "tick", "identifier"] (SpD K mg 4 den_received) :=
  def_okP (N := N_received) F (fsc (by decide +kernel)) fun f cdv A outer s H E C ds h => match ds, h with | [v_rule, v_state, v_tick, v_identifier], _ => wk_received c_remembers c_shortened C v_rule v_state v_tick v_identifier

abbrev st_chain_received : Stmt := topS 30
def N_chain_received : List Str := ["rules", "states", "tick", "identifier", "later", "accept", "rule", "state"]
theorem wk_chain_received (b_tuple : mg "tuple" = none) (b_zip : mg "zip" = none) (c_received : DefD P w K mg base 2 "received" ["rule", "state", "tick", "identifier"] (SpD K mg 4 den_received)) {f : Addr} {cdv : Value} {A : Around} {outer : List Env} {s : Shared} {H : Hp} {E : XK} (C : Cd (cx P w K mg base N_chain_received "chain_received" st_chain_received f cdv A outer s H E) E 2) (v_rules : D) (v_states : D) (v_tick : D) (v_identifier : D) :
    SR (cx P w K mg base N_chain_received "chain_received" st_chain_received f cdv A outer s H E) E true (defBody st_chain_received) [.d v_rules, .d v_states, .d v_tick, .d v_identifier, .no, .no, .no, .no] (dn_chain_received v_rules v_states v_tick v_identifier) :=
  (sr_cons (s1_par2 4 5 (mk := fun (q3 : List D × D) => [.d v_rules, .d v_states, .d v_tick, .d v_identifier, .own q3.1, .d q3.2, .no, .no]) C.toCg.calm C.toCg.nd (em_own (ef_lst ea_nil)) (em_d ex_bl)) (fun s4 => (sr_cons (s1_for (mk := fun (q16 : D × List D) => [.d v_rules, .d v_states, .d v_tick, .d v_identifier, .own q16.2, .d q16.1, .no, .no]) (s0 := (s4.2, s4.1)) (pat := (patTup 2 (patCons pure (patOne pure)))) (st := fun (s11 : D × List D) t12 => [.d v_rules, .d v_states, .d v_tick, .d v_identifier, .own s11.2, .d s11.1, .d t12.1, .d t12.2]) C.own C.toCg.calm (ix_zipT (ea_cons (ex_var 0) (ea_cons (ex_var 1) ea_nil)) b_zip) ⟨.inr rfl, ⟨.inr rfl, ⟨.inr rfl, ⟨.inr rfl, ⟨.inr rfl, ⟨.inr rfl, ⟨.inl rfl, ⟨.inl rfl, trivial⟩⟩⟩⟩⟩⟩⟩⟩ (fun (s11 : D × List D) => (gx_tup C.toCg.calm (gxs_cons (gx_name 6 C.toCg.nd (st := fun v13 => [.d v_rules, .d v_states, .d v_tick, .d v_identifier, .own s11.2, .d s11.1, .d v13, .no])) fun v14 => (gxs_one (gx_name 7 C.toCg.nd (st := fun v15 => [.d v_rules, .d v_states, .d v_tick, .d v_identifier, .own s11.2, .d s11.1, .d v14, .d v15])))))) (fun (s11 : D × List D) t12 => (sn_cons (s1_if (mk := fun (q19 : D × D) => [.d v_rules, .d v_states, .d v_tick, .d v_identifier, .own s11.2, .d q19.1, .d t12.1, .d q19.2]) (et_val (ex_var 5)) (sn_cons (s1_unp (st := fun q33 => [.d v_rules, .d v_states, .d v_tick, .d v_identifier, .own s11.2, .d q33.1, .d t12.1, .d q33.2]) (ex_call c_received C.toCg (by decide) (ea_cons (ex_var 6) (ea_cons (ex_var 7) (ea_cons (ex_var 2) (ea_cons (ex_var 3) ea_nil))))) (gx_tup C.toCg.calm (gxs_cons (gx_name 5 C.toCg.nd (st := fun v29 => [.d v_rules, .d v_states, .d v_tick, .d v_identifier, .own s11.2, .d v29, .d t12.1, .d t12.2])) fun v30 => (gxs_one (gx_name 7 C.toCg.nd (st := fun v31 => [.d v_rules, .d v_states, .d v_tick, .d v_identifier, .own s11.2, .d v30, .d t12.1, .d v31])))))) (fun s34 => (sn_nil (s := (s34.1, s34.2)) ⟨.inr rfl, ⟨.inr rfl, ⟨.inr rfl, ⟨.inr rfl, ⟨.inr rfl, ⟨.inr rfl, ⟨.inr rfl, ⟨.inr rfl, trivial⟩⟩⟩⟩⟩⟩⟩⟩))) (sn_nil (s := (s11.1, t12.2)) ⟨.inr rfl, ⟨.inr rfl, ⟨.inr rfl, ⟨.inr rfl, ⟨.inr rfl, ⟨.inr rfl, ⟨.inr rfl, ⟨.inr rfl, trivial⟩⟩⟩⟩⟩⟩⟩⟩)) (fun s35 => (sn_cons (s1_app 4 (mk := fun (q37 : List D) => [.d v_rules, .d v_states, .d v_tick, .d v_identifier, .own q37, .d s35.1, .d t12.1, .d s35.2]) rfl (ex_var 7)) (fun s38 => (sn_nil (s := (s35.1, s38)) ⟨.inr rfl, ⟨.inr rfl, ⟨.inr rfl, ⟨.inr rfl, ⟨.inr rfl, ⟨.inr rfl, ⟨.inl rfl, ⟨.inl rfl, trivial⟩⟩⟩⟩⟩⟩⟩⟩))))))) (fun s39 => (sr_frz (ρ' := [.d v_rules, .d v_states, .d v_tick, .d v_identifier, .d (.lst s39.2), .d s39.1, .no, .no]) 4 (sr_ret (ρ' := [.d v_rules, .d v_states, .d v_tick, .d v_identifier, .d (.lst s39.2), .d s39.1, .no, .no]) (ex_tup (ea_cons (ex_var 5) (ea_cons (ex_callTy cd_tuple b_tuple boot_tuple (ea_cons (ex_var 4) ea_nil)) ea_nil)))))))))
theorem ok_chain_received (b_tuple : mg "tuple" = none) (b_zip : mg "zip" = none) (c_received : DefD P w K mg base 2 "received" ["rule", "state", "tick", "identifier"] (SpD K mg 4 den_received)) (F : Pk K mg "chain_received" st_chain_received ["rules", "states", "tick", "identifier"]) : DefD P w K mg base 3 "chain_received" ["rules", "states", "tick", "identifier"] (SpD K mg 4 den_chain_received) :=
  def_okP (N := N_chain_received) F (fsc (by decide +kernel)) fun f cdv A outer s H E C ds h => match ds, h with | [v_rules, v_states, v_tick, v_identifier], _ => wk_chain_received b_tuple b_zip c_received C v_rules v_states v_tick v_identifier

abbrev st_is_gate_list : Stmt := topS 31
def N_is_gate_list : List Str := ["value", "rule"]
theorem wk_is_gate_list (b_all : mg "all" = none) (b_isinstance : mg "isinstance" = none) (b_len : mg "len" = none) (b_tuple : mg "tuple" = none) (c_is_rule : DefD P w K mg base 2 "is_rule" ["value"] (SpD K mg 1 den_is_rule)) {f : Addr} {cdv : Value} {A : Around} {outer : List Env} {s : Shared} {H : Hp} {E : XK} (C : Cd (cx P w K mg base N_is_gate_list "is_gate_list" st_is_gate_list f cdv A outer s H E) E 2) (v_value : D) :
    SR (cx P w K mg base N_is_gate_list "is_gate_list" st_is_gate_list f cdv A outer s H E) E true (defBody st_is_gate_list) [.d v_value, .no] (dn_is_gate_list v_value) :=
  (sr_ifr (ev_et (ev_or (et_not (et_val (ex_isiT (ex_var 0) b_isinstance b_tuple boot_tuple))) (ev_or (et_cmp (od_notIn) (ex_callB cd_lenT b_len boot_len (ea_cons (ex_var 0) ea_nil)) (ex_tup (ea_cons ex_int (ea_cons ex_int ea_nil)))) (ev_or1 (et_not (et_val (ex_callB (cd_all (C.toCg).calm) b_all boot_all (ea_cons (ex_ef (ef_lcr C.toCg (lc_plain [("rule", 1)] (ρw := [.d v_value, .no]) (st := fun t18 => [.d v_value, .d t18]) (ix_any (ex_var 0)) (blkOk_by (N := N_is_gate_list) (sc := defScope st_is_gate_list) (by decide +kernel)) (fun s16 H16 C16 cl16 fp16 => (gx_name 1 (cg_bk C.toCg s16 H16 C16 cl16 fp16).nd (st := fun v17 => [.d v_value, .d v17]))) (fun s16 H16 C16 cl16 fp16 t18 => (ex_call c_is_rule (cg_bk C.toCg s16 H16 C16 cl16 fp16) (by decide) (ea_cons (ex_var 1) ea_nil)))))) ea_nil)))))))) (sr_ret (ρ' := [.d v_value, .no]) ex_bl) (sr_ret (ρ' := [.d v_value, .no]) (ex_callB (cd_all (C.toCg).calm) b_all boot_all (ea_cons (ex_ef (ef_lcr C.toCg (lc_plain [("rule", 1)] (ρw := [.d v_value, .no]) (st := fun t37 => [.d v_value, .d t37]) (ix_any (ex_var 0)) (blkOk_by (N := N_is_gate_list) (sc := defScope st_is_gate_list) (by decide +kernel)) (fun s35 H35 C35 cl35 fp35 => (gx_name 1 (cg_bk C.toCg s35 H35 C35 cl35 fp35).nd (st := fun v36 => [.d v_value, .d v36]))) (fun s35 H35 C35 cl35 fp35 t37 => (ex_cmp (od_le) (ex_ix (ex_var 1) ex_int) ex_int))))) ea_nil))))
theorem ok_is_gate_list (b_all : mg "all" = none) (b_isinstance : mg "isinstance" = none) (b_len : mg "len" = none) (b_tuple : mg "tuple" = none) (c_is_rule : DefD P w K mg base 2 "is_rule" ["value"] (SpD K mg 1 den_is_rule)) (F : Pk K mg "is_gate_list" st_is_gate_list ["value"]) : DefD P w K mg base 3 "is_gate_list" ["value"] (SpD K mg 1 den_is_gate_list) :=
  def_okP (N := N_is_gate_list) F (fsc (by decide +kernel)) fun f cdv A outer s H E C ds h => match ds, h with | [v_value], _ => wk_is_gate_list b_all b_isinstance b_len b_tuple c_is_rule C v_value

abbrev st_next_messages : Stmt := topS 32
def N_next_messages : List Str := ["log", "start", "found", "gap", "name"]
theorem wk_next_messages (b_range : mg "range" = none) (g_NAMES : GlobD K mg "NAMES" c_NAMES) {f : Addr} {cdv : Value} {A : Around} {outer : List Env} {s : Shared} {H : Hp} {E : XK} (C : Cd (cx P w K mg base N_next_messages "next_messages" st_next_messages f cdv A outer s H E) E 0) (v_log : D) :
    SR (cx P w K mg base N_next_messages "next_messages" st_next_messages f cdv A outer s H E) E true (defBody st_next_messages) [.d v_log, .no, .no, .no, .no] (dn_next_messages v_log) :=
  (sr_ifr (et_cmp (od_eq C.hu) (ex_var 0) (ex_tup ea_nil)) (sr_ret (ρ' := [.d v_log, .no, .no, .no, .no]) (ex_ef (ef_lcr C.toCg (lc_plain [("name", 4)] (ρw := [.d v_log, .no, .no, .no, .no]) (st := fun t9 => [.d v_log, .no, .no, .no, .d t9]) (ix_any (ex_globF g_NAMES)) (blkOk_by (N := N_next_messages) (sc := defScope st_next_messages) (by decide +kernel)) (fun s7 H7 C7 cl7 fp7 => (gx_name 4 (cg_bk C.toCg s7 H7 C7 cl7 fp7).nd (st := fun v8 => [.d v_log, .no, .no, .no, .d v8]))) (fun s7 H7 C7 cl7 fp7 t9 => (ex_tup (ea_cons ex_int (ea_cons (ex_var 4) ea_nil)))))))) (sr_cons (s1_set 1 (mk := fun (q24 : D) => [.d v_log, .d q24, .no, .no, .no]) C.toCg.nd (ex_ix (ex_ix (ex_var 0) (ex_neg ex_int)) ex_int)) (fun s25 => (sr_cons (s1_set 2 (mk := fun (q27 : D) => [.d v_log, .d s25, .d q27, .no, .no]) C.toCg.nd (ex_ef (ef_lst ea_nil))) (fun s28 => (sr_cons (s1_for (mk := fun (q36 : D) => [.d v_log, .d s25, .d q36, .no, .no]) (s0 := s28) (pat := pure) (st := fun (s33 : D) t34 => [.d v_log, .d s25, .d s33, .d t34, .no]) C.own C.toCg.calm (ix_range1 (ea_cons ex_int ea_nil) b_range) ⟨.inr rfl, ⟨.inr rfl, ⟨.inr rfl, ⟨.inl rfl, ⟨.inl rfl, trivial⟩⟩⟩⟩⟩ (fun (s33 : D) => (gx_name 3 C.toCg.nd (st := fun v35 => [.d v_log, .d s25, .d s33, .d v35, .no]))) (fun (s33 : D) t34 => (sn_cons (s1_set 2 (mk := fun (q54 : D) => [.d v_log, .d s25, .d q54, .d t34, .no]) C.toCg.nd (ex_bin od_add (ex_var 2) (ex_ef (ef_lcr C.toCg (lc_plain [("name", 4)] (ρw := [.d v_log, .d s25, .d s33, .d t34, .no]) (st := fun t40 => [.d v_log, .d s25, .d s33, .d t34, .d t40]) (ix_any (ex_globF g_NAMES)) (blkOk_by (N := N_next_messages) (sc := defScope st_next_messages) (by decide +kernel)) (fun s38 H38 C38 cl38 fp38 => (gx_name 4 (cg_bk C.toCg s38 H38 C38 cl38 fp38).nd (st := fun v39 => [.d v_log, .d s25, .d s33, .d t34, .d v39]))) (fun s38 H38 C38 cl38 fp38 t40 => (ex_tup (ea_cons (ex_bin od_add (ex_var 1) (ex_var 3)) (ea_cons (ex_var 4) ea_nil))))))))) (fun s55 => (sn_nil (s := s55) ⟨.inr rfl, ⟨.inr rfl, ⟨.inr rfl, ⟨.inl rfl, ⟨.inl rfl, trivial⟩⟩⟩⟩⟩))))) (fun s56 => (sr_ret (ρ' := [.d v_log, .d s25, .d s56, .no, .no]) (ex_var 2)))))))))
theorem ok_next_messages (b_range : mg "range" = none) (g_NAMES : GlobD K mg "NAMES" c_NAMES) (F : Pk K mg "next_messages" st_next_messages ["log"]) : DefD P w K mg base 1 "next_messages" ["log"] (SpD K mg 1 den_next_messages) :=
  def_okP (N := N_next_messages) F (fsc (by decide +kernel)) fun f cdv A outer s H E C ds h => match ds, h with | [v_log], _ => wk_next_messages b_range g_NAMES C v_log

abbrev st_telling_log : Stmt := topS 33
def N_telling_log : List Str := ["one", "other", "length", "level", "turn", "later", "log", "ones", "others", "tick", "name", "left", "after", "right", "behind"]
theorem wk_telling_log (b_len : mg "len" = none) (b_range : mg "range" = none) (g_EMPTY : GlobD K mg "EMPTY" c_EMPTY) (e_InvalidGate : ExcC K mg "InvalidGate") (e_InvalidLength : ExcC K mg "InvalidLength") (c_is_gate_list : DefD P w K mg base 3 "is_gate_list" ["value"] (SpD K mg 1 den_is_gate_list)) (c_is_integer : DefD P w K mg base 1 "is_integer" ["value", "low", "high"] (SpD K mg 3 den_is_integer)) (c_next_messages : DefD P w K mg base 1 "next_messages" ["log"] (SpD K mg 1 den_next_messages)) (c_chain_received : DefD P w K mg base 3 "chain_received" ["rules", "states", "tick", "identifier"] (SpD K mg 4 den_chain_received)) {f : Addr} {cdv : Value} {A : Around} {outer : List Env} {s : Shared} {H : Hp} {E : XK} (C : Cd (cx P w K mg base N_telling_log "telling_log" st_telling_log f cdv A outer s H E) E 3) (v_one : D) (v_other : D) (v_length : D) :
    SR (cx P w K mg base N_telling_log "telling_log" st_telling_log f cdv A outer s H E) E true (defBody st_telling_log) [.d v_one, .d v_other, .d v_length, .no, .no, .no, .no, .no, .no, .no, .no, .no, .no, .no, .no] (dn_telling_log v_one v_other v_length) :=
  (sr_ifr (ev_et (ev_or (et_not (et_val (ex_call c_is_gate_list C.toCg (by decide) (ea_cons (ex_var 0) ea_nil)))) (ev_or1 (et_not (et_val (ex_call c_is_gate_list C.toCg (by decide) (ea_cons (ex_var 1) ea_nil))))))) (sr_raise C.toCg.calm C.takes e_InvalidGate) (sr_ifr (et_not (et_val (ex_call c_is_integer C.toCg (by decide) (ea_cons (ex_var 2) (ea_cons ex_int (ea_cons ex_int ea_nil)))))) (sr_raise C.toCg.calm C.takes e_InvalidLength) (sr_cons (s1_set 3 (mk := fun (q50 : D) => [.d v_one, .d v_other, .d v_length, .d q50, .no, .no, .no, .no, .no, .no, .no, .no, .no, .no, .no]) C.toCg.nd (ex_ef (ef_lst (ea_cons (ex_tup (ea_cons (ex_tup ea_nil) (ea_cons (ex_bin od_mulT (ex_tup (ea_cons (ex_globF g_EMPTY) ea_nil)) (ex_callB cd_len b_len boot_len (ea_cons (ex_var 0) ea_nil))) (ea_cons (ex_bin od_mulT (ex_tup (ea_cons (ex_globF g_EMPTY) ea_nil)) (ex_callB cd_len b_len boot_len (ea_cons (ex_var 1) ea_nil))) ea_nil)))) ea_nil)))) (fun s51 => (sr_cons2 (s2_for (mk := fun (q59 : D) => [.d v_one, .d v_other, .d v_length, .d q59, .no, .no, .no, .no, .no, .no, .no, .no, .no, .no, .no]) (s0 := s51) (pat := pure) (st := fun (s56 : D) t57 => [.d v_one, .d v_other, .d v_length, .d s56, .d t57, .no, .no, .no, .no, .no, .no, .no, .no, .no, .no]) C.own C.toCg.calm (ix_range1 (ea_cons (ex_var 2) ea_nil) b_range) ⟨.inr rfl, ⟨.inr rfl, ⟨.inr rfl, ⟨.inr rfl, ⟨.inl rfl, ⟨.inl rfl, ⟨.inl rfl, ⟨.inl rfl, ⟨.inl rfl, ⟨.inl rfl, ⟨.inl rfl, ⟨.inl rfl, ⟨.inl rfl, ⟨.inl rfl, ⟨.inl rfl, trivial⟩⟩⟩⟩⟩⟩⟩⟩⟩⟩⟩⟩⟩⟩⟩ (fun (s56 : D) => (gx_name 4 C.toCg.nd (st := fun v58 => [.d v_one, .d v_other, .d v_length, .d s56, .d v58, .no, .no, .no, .no, .no, .no, .no, .no, .no, .no]))) (fun (s56 : D) t57 => (sx_cons (s1_own 5 (mk := fun (q60 : List D) => [.d v_one, .d v_other, .d v_length, .d s56, .d t57, .own q60, .no, .no, .no, .no, .no, .no, .no, .no, .no]) C.toCg.nd (ef_lst ea_nil)) (fun s61 => (sx_cons2 (s2_for (mk := fun (q71 : List D) => [.d v_one, .d v_other, .d v_length, .d s56, .d t57, .own q71, .no, .no, .no, .no, .no, .no, .no, .no, .no]) (s0 := s61) (pat := (patTup 3 (patCons pure (patCons pure (patOne pure))))) (st := fun (s64 : List D) t65 => [.d v_one, .d v_other, .d v_length, .d s56, .d t57, .own s64, .d t65.1, .d t65.2.1, .d t65.2.2, .no, .no, .no, .no, .no, .no]) C.own C.toCg.calm (ix_any (ex_var 3)) ⟨.inr rfl, ⟨.inr rfl, ⟨.inr rfl, ⟨.inr rfl, ⟨.inr rfl, ⟨.inr rfl, ⟨.inl rfl, ⟨.inl rfl, ⟨.inl rfl, ⟨.inl rfl, ⟨.inl rfl, ⟨.inl rfl, ⟨.inl rfl, ⟨.inl rfl, ⟨.inl rfl, trivial⟩⟩⟩⟩⟩⟩⟩⟩⟩⟩⟩⟩⟩⟩⟩ (fun (s64 : List D) => (gx_tup C.toCg.calm (gxs_cons (gx_name 6 C.toCg.nd (st := fun v66 => [.d v_one, .d v_other, .d v_length, .d s56, .d t57, .own s64, .d v66, .no, .no, .no, .no, .no, .no, .no, .no])) fun v67 => (gxs_cons (gx_name 7 C.toCg.nd (st := fun v68 => [.d v_one, .d v_other, .d v_length, .d s56, .d t57, .own s64, .d v67, .d v68, .no, .no, .no, .no, .no, .no, .no])) fun v69 => (gxs_one (gx_name 8 C.toCg.nd (st := fun v70 => [.d v_one, .d v_other, .d v_length, .d s56, .d t57, .own s64, .d v67, .d v69, .d v70, .no, .no, .no, .no, .no, .no]))))))) (fun (s64 : List D) t65 => (sx_cons2 (s2_for (mk := fun (q82 : List D) => [.d v_one, .d v_other, .d v_length, .d s56, .d t57, .own q82, .d t65.1, .d t65.2.1, .d t65.2.2, .no, .no, .no, .no, .no, .no]) (s0 := s64) (pat := (patTup 2 (patCons pure (patOne pure)))) (st := fun (s77 : List D) t78 => [.d v_one, .d v_other, .d v_length, .d s56, .d t57, .own s77, .d t65.1, .d t65.2.1, .d t65.2.2, .d t78.1, .d t78.2, .no, .no, .no, .no]) C.own C.toCg.calm (ix_any (ex_call c_next_messages C.toCg (by decide) (ea_cons (ex_var 6) ea_nil))) ⟨.inr rfl, ⟨.inr rfl, ⟨.inr rfl, ⟨.inr rfl, ⟨.inr rfl, ⟨.inr rfl, ⟨.inr rfl, ⟨.inr rfl, ⟨.inr rfl, ⟨.inl rfl, ⟨.inl rfl, ⟨.inl rfl, ⟨.inl rfl, ⟨.inl rfl, ⟨.inl rfl, trivial⟩⟩⟩⟩⟩⟩⟩⟩⟩⟩⟩⟩⟩⟩⟩ (fun (s77 : List D) => (gx_tup C.toCg.calm (gxs_cons (gx_name 9 C.toCg.nd (st := fun v79 => [.d v_one, .d v_other, .d v_length, .d s56, .d t57, .own s77, .d t65.1, .d t65.2.1, .d t65.2.2, .d v79, .no, .no, .no, .no, .no])) fun v80 => (gxs_one (gx_name 10 C.toCg.nd (st := fun v81 => [.d v_one, .d v_other, .d v_length, .d s56, .d t57, .own s77, .d t65.1, .d t65.2.1, .d t65.2.2, .d v80, .d v81, .no, .no, .no, .no])))))) (fun (s77 : List D) t78 => (sx_cons (s1_unp (st := fun q96 => [.d v_one, .d v_other, .d v_length, .d s56, .d t57, .own s77, .d t65.1, .d t65.2.1, .d t65.2.2, .d t78.1, .d t78.2, .d q96.1, .d q96.2, .no, .no]) (ex_call c_chain_received C.toCg (by decide) (ea_cons (ex_var 0) (ea_cons (ex_var 7) (ea_cons (ex_var 9) (ea_cons (ex_var 10) ea_nil))))) (gx_tup C.toCg.calm (gxs_cons (gx_name 11 C.toCg.nd (st := fun v92 => [.d v_one, .d v_other, .d v_length, .d s56, .d t57, .own s77, .d t65.1, .d t65.2.1, .d t65.2.2, .d t78.1, .d t78.2, .d v92, .no, .no, .no])) fun v93 => (gxs_one (gx_name 12 C.toCg.nd (st := fun v94 => [.d v_one, .d v_other, .d v_length, .d s56, .d t57, .own s77, .d t65.1, .d t65.2.1, .d t65.2.2, .d t78.1, .d t78.2, .d v93, .d v94, .no, .no])))))) (fun s97 => (sx_cons (s1_unp (st := fun q111 => [.d v_one, .d v_other, .d v_length, .d s56, .d t57, .own s77, .d t65.1, .d t65.2.1, .d t65.2.2, .d t78.1, .d t78.2, .d s97.1, .d s97.2, .d q111.1, .d q111.2]) (ex_call c_chain_received C.toCg (by decide) (ea_cons (ex_var 1) (ea_cons (ex_var 8) (ea_cons (ex_var 9) (ea_cons (ex_var 10) ea_nil))))) (gx_tup C.toCg.calm (gxs_cons (gx_name 13 C.toCg.nd (st := fun v107 => [.d v_one, .d v_other, .d v_length, .d s56, .d t57, .own s77, .d t65.1, .d t65.2.1, .d t65.2.2, .d t78.1, .d t78.2, .d s97.1, .d s97.2, .d v107, .no])) fun v108 => (gxs_one (gx_name 14 C.toCg.nd (st := fun v109 => [.d v_one, .d v_other, .d v_length, .d s56, .d t57, .own s77, .d t65.1, .d t65.2.1, .d t65.2.2, .d t78.1, .d t78.2, .d s97.1, .d s97.2, .d v108, .d v109])))))) (fun s112 => (sx_ifr (et_cmp (od_ne C.hu) (ex_var 11) (ex_var 13)) (sr_ret (ρ' := [.d v_one, .d v_other, .d v_length, .d s56, .d t57, .d (.lst s77), .d t65.1, .d t65.2.1, .d t65.2.2, .d t78.1, .d t78.2, .d s97.1, .d s97.2, .d s112.1, .d s112.2]) (ex_bin od_add (ex_var 6) (ex_tup (ea_cons (ex_tup (ea_cons (ex_var 9) (ea_cons (ex_var 10) ea_nil))) ea_nil)))) (sx_cons (s1_app 5 (mk := fun (q145 : List D) => [.d v_one, .d v_other, .d v_length, .d s56, .d t57, .own q145, .d t65.1, .d t65.2.1, .d t65.2.2, .d t78.1, .d t78.2, .d s97.1, .d s97.2, .d s112.1, .d s112.2]) rfl (ex_tup (ea_cons (ex_bin od_add (ex_var 6) (ex_tup (ea_cons (ex_tup (ea_cons (ex_var 9) (ea_cons (ex_var 10) ea_nil))) ea_nil))) (ea_cons (ex_var 12) (ea_cons (ex_var 14) ea_nil))))) (fun s146 => (sx_nil (s := s146) ⟨.inr rfl, ⟨.inr rfl, ⟨.inr rfl, ⟨.inr rfl, ⟨.inr rfl, ⟨.inr rfl, ⟨.inr rfl, ⟨.inr rfl, ⟨.inr rfl, ⟨.inl rfl, ⟨.inl rfl, ⟨.inl rfl, ⟨.inl rfl, ⟨.inl rfl, ⟨.inl rfl, trivial⟩⟩⟩⟩⟩⟩⟩⟩⟩⟩⟩⟩⟩⟩⟩)))))))))) (fun s147 => (sx_nil (s := s147) ⟨.inr rfl, ⟨.inr rfl, ⟨.inr rfl, ⟨.inr rfl, ⟨.inr rfl, ⟨.inr rfl, ⟨.inl rfl, ⟨.inl rfl, ⟨.inl rfl, ⟨.inl rfl, ⟨.inl rfl, ⟨.inl rfl, ⟨.inl rfl, ⟨.inl rfl, ⟨.inl rfl, trivial⟩⟩⟩⟩⟩⟩⟩⟩⟩⟩⟩⟩⟩⟩⟩))))) (fun s148 => (sx_frz (ρ' := [.d v_one, .d v_other, .d v_length, .d s56, .d t57, .d (.lst s148), .no, .no, .no, .no, .no, .no, .no, .no, .no]) 5 (sx_cons (s1_set 3 (mk := fun (q149 : D) => [.d v_one, .d v_other, .d v_length, .d q149, .d t57, .d (.lst s148), .no, .no, .no, .no, .no, .no, .no, .no, .no]) C.toCg.nd (ex_var 5)) (fun s150 => (sx_nil (s := s150) ⟨.inr rfl, ⟨.inr rfl, ⟨.inr rfl, ⟨.inr rfl, ⟨.inl rfl, ⟨.inl rfl, ⟨.inl rfl, ⟨.inl rfl, ⟨.inl rfl, ⟨.inl rfl, ⟨.inl rfl, ⟨.inl rfl, ⟨.inl rfl, ⟨.inl rfl, ⟨.inl rfl, trivial⟩⟩⟩⟩⟩⟩⟩⟩⟩⟩⟩⟩⟩⟩⟩)))))))))) (fun s151 => (sr_ret (ρ' := [.d v_one, .d v_other, .d v_length, .d s151, .no, .no, .no, .no, .no, .no, .no, .no, .no, .no, .no]) ex_non)))))))
theorem ok_telling_log (b_len : mg "len" = none) (b_range : mg "range" = none) (g_EMPTY : GlobD K mg "EMPTY" c_EMPTY) (e_InvalidGate : ExcC K mg "InvalidGate") (e_InvalidLength : ExcC K mg "InvalidLength") (c_is_gate_list : DefD P w K mg base 3 "is_gate_list" ["value"] (SpD K mg 1 den_is_gate_list)) (c_is_integer : DefD P w K mg base 1 "is_integer" ["value", "low", "high"] (SpD K mg 3 den_is_integer)) (c_next_messages : DefD P w K mg base 1 "next_messages" ["log"] (SpD K mg 1 den_next_messages)) (c_chain_received : DefD P w K mg base 3 "chain_received" ["rules", "states", "tick", "identifier"] (SpD K mg 4 den_chain_received)) (F : Pk K mg "telling_log" st_telling_log ["one", "other", "length"]) : DefD P w K mg base 4 "telling_log" ["one", "other", "length"] (SpD K mg 3 den_telling_log) :=
  def_okP (N := N_telling_log) F (fsc (by decide +kernel)) fun f cdv A outer s H E C ds h => match ds, h with | [v_one, v_other, v_length], _ => wk_telling_log b_len b_range g_EMPTY e_InvalidGate e_InvalidLength c_is_gate_list c_is_integer c_next_messages c_chain_received C v_one v_other v_length

abbrev st__law_cell_at : Stmt := topS 35
def N__law_cell_at : List Str := ["script", "k"]
theorem wk__law_cell_at (b_len : mg "len" = none) {f : Addr} {cdv : Value} {A : Around} {outer : List Env} {s : Shared} {H : Hp} {E : XK} (C : Cd (cx P w K mg base N__law_cell_at "_law_cell_at" st__law_cell_at f cdv A outer s H E) E 0) (ns : List Int) (v_k : D) :
    SR (cx P w K mg base N__law_cell_at "_law_cell_at" st__law_cell_at f cdv A outer s H E) E true (defBody st__law_cell_at) [.d (.scr ns), .d v_k] (dn__law_cell_at ns v_k) :=
  (sr_ifr (et_cmp (od_lt) (ex_var 1) (ex_callB cd_len b_len boot_len (ea_cons (ex_var 0) ea_nil))) (sr_ret (ρ' := [.d (.scr ns), .d v_k]) (ex_ix (ex_var 0) (ex_var 1))) (sr_ret (ρ' := [.d (.scr ns), .d v_k]) ex_int))
theorem ok__law_cell_at (b_len : mg "len" = none) (F : Pk K mg "_law_cell_at" st__law_cell_at ["script", "k"]) : DefD P w K mg base 1 "_law_cell_at" ["script", "k"] (SpD K mg 2 den__law_cell_at) :=
  def_okP (N := N__law_cell_at) F (fsc (by decide +kernel)) fun f cdv A outer s H E C ds h => by
    unfold den__law_cell_at
    split
    · exact wk__law_cell_at b_len C _ _
    · exact sr_stuck

abbrev st__law_draws : Stmt := topS 36
def N__law_draws : List Str := ["cell", "many", "size", "found", "rest", "stirred", "k"]
theorem wk__law_draws (b_int : mg "int" = none) (b_range : mg "range" = none) {f : Addr} {cdv : Value} {A : Around} {outer : List Env} {s : Shared} {H : Hp} {E : XK} (C : Cd (cx P w K mg base N__law_draws "_law_draws" st__law_draws f cdv A outer s H E) E 0) (v_cell : D) (v_many : D) (v_size : D) :
    SF (cx P w K mg base N__law_draws "_law_draws" st__law_draws f cdv A outer s H E) E (defBody st__law_draws) [.d v_cell, .d v_many, .d v_size, .no, .no, .no, .no] (dn__law_draws v_cell v_many v_size) :=
  (sf_cons (s1_own 3 (mk := fun (q1 : List D) => [.d v_cell, .d v_many, .d v_size, .own q1, .no, .no, .no]) C.toCg.nd (ef_lst ea_nil)) (fun s2 => (sf_cons (s1_set 4 (mk := fun (q12 : D) => [.d v_cell, .d v_many, .d v_size, .own s2, .d q12, .no, .no]) C.toCg.nd (ex_bin od_mul (ex_var 0) (ex_callTy cd_int b_int boot_int (ea_cons (ex_cmp (od_ge) (ex_var 0) (ex_bin od_pow ex_int ex_int)) ea_nil)))) (fun s13 => (sf_cons (s1_set 5 (mk := fun (q16 : D) => [.d v_cell, .d v_many, .d v_size, .own s2, .d s13, .d q16, .no]) C.toCg.nd (ex_bin od_mod (ex_var 0) ex_int)) (fun s17 => (sf_cons (s1_for (mk := fun (q27 : D × D × List D) => [.d v_cell, .d v_many, .d v_size, .own q27.2.2, .d q27.2.1, .d q27.1, .no]) (s0 := (s17, s13, s2)) (pat := pure) (st := fun (s24 : D × D × List D) t25 => [.d v_cell, .d v_many, .d v_size, .own s24.2.2, .d s24.2.1, .d s24.1, .d t25]) C.own C.toCg.calm (ix_range1 (ea_cons (ex_bin od_add (ex_var 1) ex_int) ea_nil) b_range) ⟨.inr rfl, ⟨.inr rfl, ⟨.inr rfl, ⟨.inr rfl, ⟨.inr rfl, ⟨.inr rfl, ⟨.inl rfl, trivial⟩⟩⟩⟩⟩⟩⟩ (fun (s24 : D × D × List D) => (gx_name 6 C.toCg.nd (st := fun v26 => [.d v_cell, .d v_many, .d v_size, .own s24.2.2, .d s24.2.1, .d s24.1, .d v26]))) (fun (s24 : D × D × List D) t25 => (sn_cons (s1_set 5 (mk := fun (q40 : D) => [.d v_cell, .d v_many, .d v_size, .own s24.2.2, .d s24.2.1, .d q40, .d t25]) C.toCg.nd (ex_bin od_mod (ex_bin od_add (ex_bin od_add (ex_bin od_add (ex_bin od_mul (ex_var 5) (ex_var 5)) (ex_bin od_mul ex_int (ex_var 5))) (ex_var 6)) ex_int) ex_int)) (fun s41 => (sn_cons (s1_if (mk := fun (q50 : D × List D) => [.d v_cell, .d v_many, .d v_size, .own q50.2, .d q50.1, .d s41, .d t25]) (ev_et (ev_and (et_cmp (od_gt) (ex_var 6) ex_int) (ev_and1 (et_cmp (od_gt) (ex_var 4) ex_int)))) (sn_cons (s1_app 3 (mk := fun (q54 : List D) => [.d v_cell, .d v_many, .d v_size, .own q54, .d s24.2.1, .d s41, .d t25]) rfl (ex_bin od_mod (ex_var 4) (ex_var 2))) (fun s55 => (sn_cons (s1_set 4 (mk := fun (q58 : D) => [.d v_cell, .d v_many, .d v_size, .own s55, .d q58, .d s41, .d t25]) C.toCg.nd (ex_bin od_div (ex_var 4) (ex_var 2))) (fun s59 => (sn_nil (s := (s59, s55)) ⟨.inr rfl, ⟨.inr rfl, ⟨.inr rfl, ⟨.inr rfl, ⟨.inr rfl, ⟨.inr rfl, ⟨.inr rfl, trivial⟩⟩⟩⟩⟩⟩⟩))))) (sn_cons (s1_if (mk := fun (q64 : List D) => [.d v_cell, .d v_many, .d v_size, .own q64, .d s24.2.1, .d s41, .d t25]) (et_cmp (od_gt) (ex_var 6) ex_int) (sn_cons (s1_app 3 (mk := fun (q70 : List D) => [.d v_cell, .d v_many, .d v_size, .own q70, .d s24.2.1, .d s41, .d t25]) rfl (ex_bin od_mod (ex_bin od_div (ex_var 5) ex_int) (ex_var 2))) (fun s71 => (sn_nil (s := s71) ⟨.inr rfl, ⟨.inr rfl, ⟨.inr rfl, ⟨.inr rfl, ⟨.inr rfl, ⟨.inr rfl, ⟨.inr rfl, trivial⟩⟩⟩⟩⟩⟩⟩))) (sn_nil (s := s24.2.2) ⟨.inr rfl, ⟨.inr rfl, ⟨.inr rfl, ⟨.inr rfl, ⟨.inr rfl, ⟨.inr rfl, ⟨.inr rfl, trivial⟩⟩⟩⟩⟩⟩⟩)) (fun s72 => (sn_nil (s := (s24.2.1, s72)) ⟨.inr rfl, ⟨.inr rfl, ⟨.inr rfl, ⟨.inr rfl, ⟨.inr rfl, ⟨.inr rfl, ⟨.inr rfl, trivial⟩⟩⟩⟩⟩⟩⟩)))) (fun s73 => (sn_nil (s := (s41, s73.1, s73.2)) ⟨.inr rfl, ⟨.inr rfl, ⟨.inr rfl, ⟨.inr rfl, ⟨.inr rfl, ⟨.inr rfl, ⟨.inl rfl, trivial⟩⟩⟩⟩⟩⟩⟩))))))) (fun s74 => (sf_own 3)))))))))
theorem ok__law_draws (b_int : mg "int" = none) (b_range : mg "range" = none) (F : Pk K mg "_law_draws" st__law_draws ["cell", "many", "size"]) : DefD P w K mg base 1 "_law_draws" ["cell", "many", "size"] (SpF K mg 3 den__law_draws) :=
  def_okFP (N := N__law_draws) F (fsc (by decide +kernel)) fun f cdv A outer s H E C ds h => match ds, h with | [v_cell, v_many, v_size], _ => wk__law_draws b_int b_range C v_cell v_many v_size

abbrev st__law_bag : Stmt := topS 37
def N__law_bag : List Str := ["script", "k"]
theorem wk__law_bag (c__law_draws : DefD P w K mg base 1 "_law_draws" ["cell", "many", "size"] (SpF K mg 3 den__law_draws)) (c__law_cell_at : DefD P w K mg base 1 "_law_cell_at" ["script", "k"] (SpD K mg 2 den__law_cell_at)) {f : Addr} {cdv : Value} {A : Around} {outer : List Env} {s : Shared} {H : Hp} {E : XK} (C : Cd (cx P w K mg base N__law_bag "_law_bag" st__law_bag f cdv A outer s H E) E 1) (ns : List Int) (v_k : D) :
    SF (cx P w K mg base N__law_bag "_law_bag" st__law_bag f cdv A outer s H E) E (defBody st__law_bag) [.d (.scr ns), .d v_k] (dn__law_bag ns v_k) :=
  (sf_ret (ρ' := [.d (.scr ns), .d v_k]) (ef_lst (ea_cons (ex_call c__law_draws.plain C.toCg (by decide) (ea_cons (ex_call c__law_cell_at C.toCg (by decide) (ea_cons (ex_var 0) (ea_cons (ex_var 1) ea_nil))) (ea_cons ex_int (ea_cons ex_int ea_nil)))) (ea_cons ex_int ea_nil))))
theorem ok__law_bag (c__law_draws : DefD P w K mg base 1 "_law_draws" ["cell", "many", "size"] (SpF K mg 3 den__law_draws)) (c__law_cell_at : DefD P w K mg base 1 "_law_cell_at" ["script", "k"] (SpD K mg 2 den__law_cell_at)) (F : Pk K mg "_law_bag" st__law_bag ["script", "k"]) : DefD P w K mg base 2 "_law_bag" ["script", "k"] (SpF K mg 2 den__law_bag) :=
  def_okFP (N := N__law_bag) F (fsc (by decide +kernel)) fun f cdv A outer s H E C ds h => by
    unfold den__law_bag
    split
    · exact wk__law_bag c__law_draws c__law_cell_at C _ _
    · exact sf_stuck

abbrev st__law_bags : Stmt := topS 38
def N__law_bags : List Str := ["script", "limit", "k"]
theorem wk__law_bags (b_len : mg "len" = none) (b_max : mg "max" = none) (b_min : mg "min" = none) (b_range : mg "range" = none) (c__law_bag : DefD P w K mg base 2 "_law_bag" ["script", "k"] (SpF K mg 2 den__law_bag)) {f : Addr} {cdv : Value} {A : Around} {outer : List Env} {s : Shared} {H : Hp} {E : XK} (C : Cd (cx P w K mg base N__law_bags "_law_bags" st__law_bags f cdv A outer s H E) E 2) (ns : List Int) (v_limit : D) :
    SR (cx P w K mg base N__law_bags "_law_bags" st__law_bags f cdv A outer s H E) E true (defBody st__law_bags) [.d (.scr ns), .d v_limit, .no] (dn__law_bags ns v_limit) :=
  (sr_ret (ρ' := [.d (.scr ns), .d v_limit, .no]) (ex_ef (ef_lcr C.toCg (lc_plain [("k", 2)] (ρw := [.d (.scr ns), .d v_limit, .no]) (st := fun t19 => [.d (.scr ns), .d v_limit, .d t19]) (ix_range1 (ea_cons (ex_callB (cd_max (C.toCg).calm) b_max boot_max (ea_cons ex_int (ea_cons (ex_callB (cd_min (C.toCg).calm) b_min boot_min (ea_cons (ex_var 1) (ea_cons (ex_callB cd_len b_len boot_len (ea_cons (ex_var 0) ea_nil)) ea_nil))) ea_nil))) ea_nil) b_range) (blkOk_by (N := N__law_bags) (sc := defScope st__law_bags) (by decide +kernel)) (fun s17 H17 C17 cl17 fp17 => (gx_name 2 (cg_bk C.toCg s17 H17 C17 cl17 fp17).nd (st := fun v18 => [.d (.scr ns), .d v_limit, .d v18]))) (fun s17 H17 C17 cl17 fp17 t19 => (ex_call c__law_bag.plain (cg_bk C.toCg s17 H17 C17 cl17 fp17) (by decide) (ea_cons (ex_var 0) (ea_cons (ex_var 2) ea_nil))))))))
theorem ok__law_bags (b_len : mg "len" = none) (b_max : mg "max" = none) (b_min : mg "min" = none) (b_range : mg "range" = none) (c__law_bag : DefD P w K mg base 2 "_law_bag" ["script", "k"] (SpF K mg 2 den__law_bag)) (F : Pk K mg "_law_bags" st__law_bags ["script", "limit"]) : DefD P w K mg base 3 "_law_bags" ["script", "limit"] (SpD K mg 2 den__law_bags) :=
  def_okP (N := N__law_bags) F (fsc (by decide +kernel)) fun f cdv A outer s H E C ds h => by
    unfold den__law_bags
    split
    · exact wk__law_bags b_len b_max b_min b_range c__law_bag C _ _
    · exact sr_stuck

abbrev st__law_take : Stmt := topS 39
def N__law_take : List Str := ["bag", "many"]
theorem wk__law_take (b_len : mg "len" = none) {f : Addr} {cdv : Value} {A : Around} {outer : List Env} {s : Shared} {H : Hp} {E : XK} (C : Cd (cx P w K mg base N__law_take "_law_take" st__law_take f cdv A outer s H E) E 0) (v_many : D) :
    SR (cx P w K mg base N__law_take "_law_take" st__law_take f cdv A outer s H E) E true (defBody st__law_take) [.d .bag, .d v_many] (dn__law_take v_many) :=
  (sr_cons (s1_bag 0 C.toCg.calm rfl (ex_bin od_add (ex_ix (ex_var 0) ex_int) ex_int)) (fun _ => (sr_ret (ρ' := [.d .bag, .d v_many]) (ex_bin od_mod (ex_ix (ex_ix (ex_var 0) ex_int) (ex_bin od_mod (ex_ix (ex_var 0) ex_int) (ex_callB cd_len b_len boot_len (ea_cons (ex_ix (ex_var 0) ex_int) ea_nil)))) (ex_var 1)))))
theorem ok__law_take (b_len : mg "len" = none) (F : Pk K mg "_law_take" st__law_take ["bag", "many"]) : DefD P w K mg base 1 "_law_take" ["bag", "many"] (SpD K mg 2 den__law_take) :=
  def_okP (N := N__law_take) F (fsc (by decide +kernel)) fun f cdv A outer s H E C ds h => by
    unfold den__law_take
    split
    · exact wk__law_take b_len C _
    · exact sr_stuck

abbrev st__law_kind : Stmt := topS 40
def N__law_kind : List Str := ["bag"]
theorem wk__law_kind (c__law_take : DefD P w K mg base 1 "_law_take" ["bag", "many"] (SpD K mg 2 takeD)) {f : Addr} {cdv : Value} {A : Around} {outer : List Env} {s : Shared} {H : Hp} {E : XK} (C : Cd (cx P w K mg base N__law_kind "_law_kind" st__law_kind f cdv A outer s H E) E 1)  :
    SR (cx P w K mg base N__law_kind "_law_kind" st__law_kind f cdv A outer s H E) E true (defBody st__law_kind) [.d .bag] (dn__law_kind ) :=
  (sr_ret (ρ' := [.d .bag]) (ex_ix (ex_ef (ef_lst (ea_cons ex_str (ea_cons ex_str (ea_cons ex_str (ea_cons ex_str ea_nil)))))) (ex_call c__law_take C.toCg (by decide) (ea_cons (ex_var 0) (ea_cons ex_int ea_nil)))))
theorem ok__law_kind (c__law_take : DefD P w K mg base 1 "_law_take" ["bag", "many"] (SpD K mg 2 takeD)) (F : Pk K mg "_law_kind" st__law_kind ["bag"]) : DefD P w K mg base 2 "_law_kind" ["bag"] (SpD K mg 1 den__law_kind) :=
  def_okP (N := N__law_kind) F (fsc (by decide +kernel)) fun f cdv A outer s H E C ds h => by
    unfold den__law_kind
    split
    · exact wk__law_kind c__law_take C 
    · exact sr_stuck

abbrev st__law_last_names : Stmt := topS 41
def N__law_last_names : List Str := ["names", "size", "found", "name"]
theorem wk__law_last_names (b_len : mg "len" = none) {f : Addr} {cdv : Value} {A : Around} {outer : List Env} {s : Shared} {H : Hp} {E : XK} (C : Cd (cx P w K mg base N__law_last_names "_law_last_names" st__law_last_names f cdv A outer s H E) E 0) (v_names : D) (v_size : D) :
    SF (cx P w K mg base N__law_last_names "_law_last_names" st__law_last_names f cdv A outer s H E) E (defBody st__law_last_names) [.d v_names, .d v_size, .no, .no] (dn__law_last_names v_names v_size) :=
  (sf_cons (s1_own 2 (mk := fun (q1 : List D) => [.d v_names, .d v_size, .own q1, .no]) C.toCg.nd (ef_lst ea_nil)) (fun s2 => (sf_cons (s1_for (mk := fun (q11 : List D) => [.d v_names, .d v_size, .own q11, .no]) (s0 := s2) (pat := pure) (st := fun (s8 : List D) t9 => [.d v_names, .d v_size, .own s8, .d t9]) C.own C.toCg.calm (ix_any (ex_ef (ef_rev (ex_var 0)))) ⟨.inr rfl, ⟨.inr rfl, ⟨.inr rfl, ⟨.inl rfl, trivial⟩⟩⟩⟩ (fun (s8 : List D) => (gx_name 3 C.toCg.nd (st := fun v10 => [.d v_names, .d v_size, .own s8, .d v10]))) (fun (s8 : List D) t9 => (sn_cons (s1_if (mk := fun (q23 : List D) => [.d v_names, .d v_size, .own q23, .d t9]) (et_bor (ρ' := [.d v_names, .d v_size, .d (.lst s8), .d t9]) (ev_et (ev_and (et_cmp (od_notIn) (ex_var 3) (ex_var 2)) (ev_and1 (et_cmp (od_lt) (ex_callB cd_len b_len boot_len (ea_cons (ex_var 2) ea_nil)) (ex_var 1)))))) (sn_cons (s1_app 2 (mk := fun (q25 : List D) => [.d v_names, .d v_size, .own q25, .d t9]) rfl (ex_var 3)) (fun s26 => (sn_nil (s := s26) ⟨.inr rfl, ⟨.inr rfl, ⟨.inr rfl, ⟨.inr rfl, trivial⟩⟩⟩⟩))) (sn_nil (s := s8) ⟨.inr rfl, ⟨.inr rfl, ⟨.inr rfl, ⟨.inr rfl, trivial⟩⟩⟩⟩)) (fun s27 => (sn_nil (s := s27) ⟨.inr rfl, ⟨.inr rfl, ⟨.inr rfl, ⟨.inl rfl, trivial⟩⟩⟩⟩))))) (fun s28 => (sf_own 2)))))
theorem ok__law_last_names (b_len : mg "len" = none) (F : Pk K mg "_law_last_names" st__law_last_names ["names", "size"]) : DefD P w K mg base 1 "_law_last_names" ["names", "size"] (SpF K mg 2 den__law_last_names) :=
  def_okFP (N := N__law_last_names) F (fsc (by decide +kernel)) fun f cdv A outer s H E C ds h => match ds, h with | [v_names, v_size], _ => wk__law_last_names b_len C v_names v_size

abbrev st__law_memory : Stmt := topS 42
def N__law_memory : List Str := ["rule", "past", "tick", "kind", "size", "found", "when", "name", "accept"]
theorem wk__law_memory (c__law_last_names : DefD P w K mg base 1 "_law_last_names" ["names", "size"] (SpF K mg 2 den__law_last_names)) {f : Addr} {cdv : Value} {A : Around} {outer : List Env} {s : Shared} {H : Hp} {E : XK} (C : Cd (cx P w K mg base N__law_memory "_law_memory" st__law_memory f cdv A outer s H E) E 1) (v_rule : D) (v_past : D) (v_tick : D) :
    SF (cx P w K mg base N__law_memory "_law_memory" st__law_memory f cdv A outer s H E) E (defBody st__law_memory) [.d v_rule, .d v_past, .d v_tick, .no, .no, .no, .no, .no, .no] (dn__law_memory v_rule v_past v_tick) :=
  (sf_cons (s1_unp (st := fun q5 => [.d v_rule, .d v_past, .d v_tick, .d q5.1, .d q5.2, .no, .no, .no, .no]) (ex_var 0) (gx_tup C.toCg.calm (gxs_cons (gx_name 3 C.toCg.nd (st := fun v1 => [.d v_rule, .d v_past, .d v_tick, .d v1, .no, .no, .no, .no, .no])) fun v2 => (gxs_one (gx_name 4 C.toCg.nd (st := fun v3 => [.d v_rule, .d v_past, .d v_tick, .d v2, .d v3, .no, .no, .no, .no])))))) (fun s6 => (sf_ifr (et_cmp (od_eq C.hu) (ex_var 3) ex_str) (sf_ret (ρ' := [.d v_rule, .d v_past, .d v_tick, .d s6.1, .d s6.2, .no, .no, .no, .no]) (ef_slc (ex_ef (ef_lcr C.toCg (lc_if [("when", 6), ("name", 7), ("accept", 8)] (ρw := [.d v_rule, .d v_past, .d v_tick, .d s6.1, .d s6.2, .no, .no, .no, .no]) (st := fun t18 => [.d v_rule, .d v_past, .d v_tick, .d s6.1, .d s6.2, .no, .d t18.1, .d t18.2.1, .d t18.2.2]) (ix_any (ex_var 1)) (blkOk_by (N := N__law_memory) (sc := defScope st__law_memory) (by decide +kernel)) (fun s12 H12 C12 cl12 fp12 => (gx_tup (cg_bk C.toCg s12 H12 C12 cl12 fp12).calm (gxs_cons (gx_name 6 (cg_bk C.toCg s12 H12 C12 cl12 fp12).nd (st := fun v13 => [.d v_rule, .d v_past, .d v_tick, .d s6.1, .d s6.2, .no, .d v13, .no, .no])) fun v14 => (gxs_cons (gx_name 7 (cg_bk C.toCg s12 H12 C12 cl12 fp12).nd (st := fun v15 => [.d v_rule, .d v_past, .d v_tick, .d s6.1, .d s6.2, .no, .d v14, .d v15, .no])) fun v16 => (gxs_one (gx_name 8 (cg_bk C.toCg s12 H12 C12 cl12 fp12).nd (st := fun v17 => [.d v_rule, .d v_past, .d v_tick, .d s6.1, .d s6.2, .no, .d v14, .d v16, .d v17]))))))) (fun s12 H12 C12 cl12 fp12 t18 => (et_val (ex_var 8))) (fun s12 H12 C12 cl12 fp12 t18 => (ex_var 7))))) (eo_some (ex_bin od_sub ex_int (ex_var 4))) eo_none)) (sf_ifr (et_cmp (od_eq C.hu) (ex_var 3) ex_str) (sf_ret (ρ' := [.d v_rule, .d v_past, .d v_tick, .d s6.1, .d s6.2, .no, .no, .no, .no]) (ef_call c__law_last_names C.toCg (by decide) (ea_cons (ex_ef (ef_lcr C.toCg (lc_plain [("when", 6), ("name", 7), ("accept", 8)] (ρw := [.d v_rule, .d v_past, .d v_tick, .d s6.1, .d s6.2, .no, .no, .no, .no]) (st := fun t44 => [.d v_rule, .d v_past, .d v_tick, .d s6.1, .d s6.2, .no, .d t44.1, .d t44.2.1, .d t44.2.2]) (ix_any (ex_var 1)) (blkOk_by (N := N__law_memory) (sc := defScope st__law_memory) (by decide +kernel)) (fun s38 H38 C38 cl38 fp38 => (gx_tup (cg_bk C.toCg s38 H38 C38 cl38 fp38).calm (gxs_cons (gx_name 6 (cg_bk C.toCg s38 H38 C38 cl38 fp38).nd (st := fun v39 => [.d v_rule, .d v_past, .d v_tick, .d s6.1, .d s6.2, .no, .d v39, .no, .no])) fun v40 => (gxs_cons (gx_name 7 (cg_bk C.toCg s38 H38 C38 cl38 fp38).nd (st := fun v41 => [.d v_rule, .d v_past, .d v_tick, .d s6.1, .d s6.2, .no, .d v40, .d v41, .no])) fun v42 => (gxs_one (gx_name 8 (cg_bk C.toCg s38 H38 C38 cl38 fp38).nd (st := fun v43 => [.d v_rule, .d v_past, .d v_tick, .d s6.1, .d s6.2, .no, .d v40, .d v42, .d v43]))))))) (fun s38 H38 C38 cl38 fp38 t44 => (ex_var 7))))) (ea_cons (ex_var 4) ea_nil)))) (sf_cons (s1_own 5 (mk := fun (q54 : List D) => [.d v_rule, .d v_past, .d v_tick, .d s6.1, .d s6.2, .own q54, .no, .no, .no]) C.toCg.nd (ef_lst ea_nil)) (fun s55 => (sf_cons (s1_for (mk := fun (q65 : List D) => [.d v_rule, .d v_past, .d v_tick, .d s6.1, .d s6.2, .own q65, .no, .no, .no]) (s0 := s55) (pat := (patTup 3 (patCons pure (patCons pure (patOne pure))))) (st := fun (s58 : List D) t59 => [.d v_rule, .d v_past, .d v_tick, .d s6.1, .d s6.2, .own s58, .d t59.1, .d t59.2.1, .d t59.2.2]) C.own C.toCg.calm (ix_any (ex_var 1)) ⟨.inr rfl, ⟨.inr rfl, ⟨.inr rfl, ⟨.inr rfl, ⟨.inr rfl, ⟨.inr rfl, ⟨.inl rfl, ⟨.inl rfl, ⟨.inl rfl, trivial⟩⟩⟩⟩⟩⟩⟩⟩⟩ (fun (s58 : List D) => (gx_tup C.toCg.calm (gxs_cons (gx_name 6 C.toCg.nd (st := fun v60 => [.d v_rule, .d v_past, .d v_tick, .d s6.1, .d s6.2, .own s58, .d v60, .no, .no])) fun v61 => (gxs_cons (gx_name 7 C.toCg.nd (st := fun v62 => [.d v_rule, .d v_past, .d v_tick, .d s6.1, .d s6.2, .own s58, .d v61, .d v62, .no])) fun v63 => (gxs_one (gx_name 8 C.toCg.nd (st := fun v64 => [.d v_rule, .d v_past, .d v_tick, .d s6.1, .d s6.2, .own s58, .d v61, .d v63, .d v64]))))))) (fun (s58 : List D) t59 => (sn_cons (s1_if (mk := fun (q82 : List D) => [.d v_rule, .d v_past, .d v_tick, .d s6.1, .d s6.2, .own q82, .d t59.1, .d t59.2.1, .d t59.2.2]) (et_bor (ρ' := [.d v_rule, .d v_past, .d v_tick, .d s6.1, .d s6.2, .d (.lst s58), .d t59.1, .d t59.2.1, .d t59.2.2]) (ev_et (ev_and (et_cmp (od_lt) (ex_bin od_sub (ex_var 2) (ex_var 6)) (ex_var 4)) (ev_and (et_cmp (od_notIn) (ex_var 7) (ex_var 5)) (ev_and1 (ev_et (ev_or (et_val (ex_var 8)) (ev_or1 (et_cmp (od_eq C.hu) (ex_var 3) ex_str))))))))) (sn_cons (s1_app 5 (mk := fun (q84 : List D) => [.d v_rule, .d v_past, .d v_tick, .d s6.1, .d s6.2, .own q84, .d t59.1, .d t59.2.1, .d t59.2.2]) rfl (ex_var 7)) (fun s85 => (sn_nil (s := s85) ⟨.inr rfl, ⟨.inr rfl, ⟨.inr rfl, ⟨.inr rfl, ⟨.inr rfl, ⟨.inr rfl, ⟨.inr rfl, ⟨.inr rfl, ⟨.inr rfl, trivial⟩⟩⟩⟩⟩⟩⟩⟩⟩))) (sn_nil (s := s58) ⟨.inr rfl, ⟨.inr rfl, ⟨.inr rfl, ⟨.inr rfl, ⟨.inr rfl, ⟨.inr rfl, ⟨.inr rfl, ⟨.inr rfl, ⟨.inr rfl, trivial⟩⟩⟩⟩⟩⟩⟩⟩⟩)) (fun s86 => (sn_nil (s := s86) ⟨.inr rfl, ⟨.inr rfl, ⟨.inr rfl, ⟨.inr rfl, ⟨.inr rfl, ⟨.inr rfl, ⟨.inl rfl, ⟨.inl rfl, ⟨.inl rfl, trivial⟩⟩⟩⟩⟩⟩⟩⟩⟩))))) (fun s87 => (sf_own 5)))))))))
theorem ok__law_memory (c__law_last_names : DefD P w K mg base 1 "_law_last_names" ["names", "size"] (SpF K mg 2 den__law_last_names)) (F : Pk K mg "_law_memory" st__law_memory ["rule", "past", "tick"]) : DefD P w K mg base 2 "_law_memory" ["rule", "past", "tick"] (SpF K mg 3 den__law_memory) :=
  def_okFP (N := N__law_memory) F (fsc (by decide +kernel)) fun f cdv A outer s H E C ds h => match ds, h with | [v_rule, v_past, v_tick], _ => wk__law_memory c__law_last_names C v_rule v_past v_tick

abbrev st__law_past : Stmt := topS 43
def N__law_past : List Str := ["rule", "log", "past", "tick", "name"]
theorem wk__law_past (c__law_memory : DefD P w K mg base 2 "_law_memory" ["rule", "past", "tick"] (SpF K mg 3 den__law_memory)) {f : Addr} {cdv : Value} {A : Around} {outer : List Env} {s : Shared} {H : Hp} {E : XK} (C : Cd (cx P w K mg base N__law_past "_law_past" st__law_past f cdv A outer s H E) E 2) (v_rule : D) (v_log : D) :
    SF (cx P w K mg base N__law_past "_law_past" st__law_past f cdv A outer s H E) E (defBody st__law_past) [.d v_rule, .d v_log, .no, .no, .no] (dn__law_past v_rule v_log) :=
  (sf_cons (s1_own 2 (mk := fun (q1 : List D) => [.d v_rule, .d v_log, .own q1, .no, .no]) C.toCg.nd (ef_lst ea_nil)) (fun s2 => (sf_cons (s1_for (mk := fun (q10 : List D) => [.d v_rule, .d v_log, .own q10, .no, .no]) (s0 := s2) (pat := (patTup 2 (patCons pure (patOne pure)))) (st := fun (s5 : List D) t6 => [.d v_rule, .d v_log, .own s5, .d t6.1, .d t6.2]) C.own C.toCg.calm (ix_any (ex_var 1)) ⟨.inr rfl, ⟨.inr rfl, ⟨.inr rfl, ⟨.inl rfl, ⟨.inl rfl, trivial⟩⟩⟩⟩⟩ (fun (s5 : List D) => (gx_tup C.toCg.calm (gxs_cons (gx_name 3 C.toCg.nd (st := fun v7 => [.d v_rule, .d v_log, .own s5, .d v7, .no])) fun v8 => (gxs_one (gx_name 4 C.toCg.nd (st := fun v9 => [.d v_rule, .d v_log, .own s5, .d v8, .d v9])))))) (fun (s5 : List D) t6 => (sn_cons (s1_app 2 (mk := fun (q28 : List D) => [.d v_rule, .d v_log, .own q28, .d t6.1, .d t6.2]) rfl (ex_tup (ea_cons (ex_var 3) (ea_cons (ex_var 4) (ea_cons (ex_bor (ρ' := [.d v_rule, .d v_log, .d (.lst s5), .d t6.1, .d t6.2]) (ex_cmp (od_notIn) (ex_var 4) (ex_call c__law_memory.plain C.toCg (by decide) (ea_cons (ex_var 0) (ea_cons (ex_var 2) (ea_cons (ex_var 3) ea_nil)))))) ea_nil))))) (fun s29 => (sn_nil (s := s29) ⟨.inr rfl, ⟨.inr rfl, ⟨.inr rfl, ⟨.inl rfl, ⟨.inl rfl, trivial⟩⟩⟩⟩⟩))))) (fun s30 => (sf_own 2)))))
theorem ok__law_past (c__law_memory : DefD P w K mg base 2 "_law_memory" ["rule", "past", "tick"] (SpF K mg 3 den__law_memory)) (F : Pk K mg "_law_past" st__law_past ["rule", "log"]) : DefD P w K mg base 3 "_law_past" ["rule", "log"] (SpF K mg 2 den__law_past) :=
  def_okFP (N := N__law_past) F (fsc (by decide +kernel)) fun f cdv A outer s H E C ds h => match ds, h with | [v_rule, v_log], _ => wk__law_past c__law_memory C v_rule v_log

abbrev st__law_flags : Stmt := topS 44
def N__law_flags : List Str := ["rule", "log", "tick", "name", "accept"]
theorem wk__law_flags (c__law_past : DefD P w K mg base 3 "_law_past" ["rule", "log"] (SpF K mg 2 den__law_past)) {f : Addr} {cdv : Value} {A : Around} {outer : List Env} {s : Shared} {H : Hp} {E : XK} (C : Cd (cx P w K mg base N__law_flags "_law_flags" st__law_flags f cdv A outer s H E) E 3) (v_rule : D) (v_log : D) :
    SF (cx P w K mg base N__law_flags "_law_flags" st__law_flags f cdv A outer s H E) E (defBody st__law_flags) [.d v_rule, .d v_log, .no, .no, .no] (dn__law_flags v_rule v_log) :=
  (sf_ret (ρ' := [.d v_rule, .d v_log, .no, .no, .no]) (ef_lcr C.toCg (lc_plain [("tick", 2), ("name", 3), ("accept", 4)] (ρw := [.d v_rule, .d v_log, .no, .no, .no]) (st := fun t13 => [.d v_rule, .d v_log, .d t13.1, .d t13.2.1, .d t13.2.2]) (ix_any (ex_call c__law_past.plain C.toCg (by decide) (ea_cons (ex_var 0) (ea_cons (ex_var 1) ea_nil)))) (blkOk_by (N := N__law_flags) (sc := defScope st__law_flags) (by decide +kernel)) (fun s7 H7 C7 cl7 fp7 => (gx_tup (cg_bk C.toCg s7 H7 C7 cl7 fp7).calm (gxs_cons (gx_name 2 (cg_bk C.toCg s7 H7 C7 cl7 fp7).nd (st := fun v8 => [.d v_rule, .d v_log, .d v8, .no, .no])) fun v9 => (gxs_cons (gx_name 3 (cg_bk C.toCg s7 H7 C7 cl7 fp7).nd (st := fun v10 => [.d v_rule, .d v_log, .d v9, .d v10, .no])) fun v11 => (gxs_one (gx_name 4 (cg_bk C.toCg s7 H7 C7 cl7 fp7).nd (st := fun v12 => [.d v_rule, .d v_log, .d v9, .d v11, .d v12]))))))) (fun s7 H7 C7 cl7 fp7 t13 => (ex_var 4)))))
theorem ok__law_flags (c__law_past : DefD P w K mg base 3 "_law_past" ["rule", "log"] (SpF K mg 2 den__law_past)) (F : Pk K mg "_law_flags" st__law_flags ["rule", "log"]) : DefD P w K mg base 4 "_law_flags" ["rule", "log"] (SpF K mg 2 den__law_flags) :=
  def_okFP (N := N__law_flags) F (fsc (by decide +kernel)) fun f cdv A outer s H E C ds h => match ds, h with | [v_rule, v_log], _ => wk__law_flags c__law_past C v_rule v_log

abbrev st__law_error : Stmt := topS 45
def N__law_error : List Str := ["call", "a", "b", "c", "kinds", "rows", "e", "name", "there"]
theorem su__law_error (b_isinstance : mg "isinstance" = none) (b_ValueError : mg "ValueError" = none) {fa : Addr} {cdv : Value} {A : Around} {outer : List Env} {s : Shared} {H : Hp} {E : XK} (C : Cd (cx P w K mg base N__law_error "_law_error" st__law_error fa cdv A outer s H E) E 4) {f : Addr} {da db dc : D} {s0 : List D} {x : Str} (hx : x ∈ errNames) {ax Cx' : Addr} {oe : Obj} {pn : List (Addr × Obj)}
    (hex : L2.ExcC K Cx') (hall : ∀ y ∈ errNames, ∃ Cy, mg y = some (.ref Cy) ∧ PySem.W.kitOne K (.ref Cx') (.ref Cy) = some (decide (x = y))) (hkv : PySem.W.kitOne K (.ref Cx') (.type "ValueError") = some true) (hz : Zc (.ref Cx') none oe) (hf : ∃ vs, oe.data = .fields vs) (hot : L2H.HotC (Su (cx P w K mg base N__law_error "_law_error" st__law_error fa cdv A outer s H E) ax oe pn)) :
    SN (Su (cx P w K mg base N__law_error "_law_error" st__law_error fa cdv A outer s H E) ax oe pn) E0 (errSuite st__law_error) [.d (.fn f), .d da, .d db, .d dc, .own s0, .no, .d (.fn ax), .no, .no] (fun r => [.d (.fn f), .d da, .d db, .d dc, .own r, .no, .no, .no, .no]) (pure [.str x, .bl true]) := by
  obtain ⟨c0, m0, k0⟩ := hall "InvalidRule" (by decide)
  obtain ⟨c1, m1, k1⟩ := hall "InvalidLog" (by decide)
  obtain ⟨c2, m2, k2⟩ := hall "InvalidIndex" (by decide)
  obtain ⟨c3, m3, k3⟩ := hall "InvalidKind" (by decide)
  obtain ⟨c4, m4, k4⟩ := hall "InvalidSizes" (by decide)
  obtain ⟨c5, m5, k5⟩ := hall "InvalidTraffic" (by decide)
  obtain ⟨c6, m6, k6⟩ := hall "InvalidPause" (by decide)
  obtain ⟨c7, m7, k7⟩ := hall "InvalidGate" (by decide)
  obtain ⟨c8, m8, k8⟩ := hall "InvalidDecisions" (by decide)
  obtain ⟨c9, m9, k9⟩ := hall "InvalidLength" (by decide)
  obtain ⟨c10, m10, k10⟩ := hall "InvalidMessage" (by decide)
  obtain ⟨c11, m11, k11⟩ := hall "NothingToUndo" (by decide)
  exact (sn_val ((errNames.take 2).map (errT x)) (s1_own 5 (mk := fun (q : List D) => [.d (.fn f), .d da, .d db, .d dc, .own s0, .own q, .d (.fn ax), .no, .no]) C.nd (ef_lst (ea_cons (ex_tup (ea_cons ex_str (ea_cons (ex_isE 6 hex hz hf b_isinstance m0 k0) ea_nil))) (ea_cons (ex_tup (ea_cons ex_str (ea_cons (ex_isE 6 hex hz hf b_isinstance m1 k1) ea_nil))) ea_nil)))) rfl (sn_frz (ρ' := [.d (.fn f), .d da, .d db, .d dc, .own s0, .d (.lst ((errNames.take 2).map (errT x))), .d (.fn ax), .no, .no]) 5 (sn_val ((errNames.take 3).map (errT x)) (s1_own 5 (mk := fun (q : List D) => [.d (.fn f), .d da, .d db, .d dc, .own s0, .own q, .d (.fn ax), .no, .no]) C.nd (ef_cat (ex_var 5) (ex_ef (ef_lst (ea_cons (ex_tup (ea_cons ex_str (ea_cons (ex_isE 6 hex hz hf b_isinstance m2 k2) ea_nil))) ea_nil))))) (cat_val (a := ((errNames.take 2).map (errT x))) (b := [errT x "InvalidIndex"]) (by rw [List.length_map]; show (List.take 2 errNames).length + 1 ≤ 1000000; decide)) (sn_frz (ρ' := [.d (.fn f), .d da, .d db, .d dc, .own s0, .d (.lst ((errNames.take 3).map (errT x))), .d (.fn ax), .no, .no]) 5 (sn_val ((errNames.take 4).map (errT x)) (s1_own 5 (mk := fun (q : List D) => [.d (.fn f), .d da, .d db, .d dc, .own s0, .own q, .d (.fn ax), .no, .no]) C.nd (ef_cat (ex_var 5) (ex_ef (ef_lst (ea_cons (ex_tup (ea_cons ex_str (ea_cons (ex_isE 6 hex hz hf b_isinstance m3 k3) ea_nil))) ea_nil))))) (cat_val (a := ((errNames.take 3).map (errT x))) (b := [errT x "InvalidKind"]) (by rw [List.length_map]; show (List.take 3 errNames).length + 1 ≤ 1000000; decide)) (sn_frz (ρ' := [.d (.fn f), .d da, .d db, .d dc, .own s0, .d (.lst ((errNames.take 4).map (errT x))), .d (.fn ax), .no, .no]) 5 (sn_val ((errNames.take 5).map (errT x)) (s1_own 5 (mk := fun (q : List D) => [.d (.fn f), .d da, .d db, .d dc, .own s0, .own q, .d (.fn ax), .no, .no]) C.nd (ef_cat (ex_var 5) (ex_ef (ef_lst (ea_cons (ex_tup (ea_cons ex_str (ea_cons (ex_isE 6 hex hz hf b_isinstance m4 k4) ea_nil))) ea_nil))))) (cat_val (a := ((errNames.take 4).map (errT x))) (b := [errT x "InvalidSizes"]) (by rw [List.length_map]; show (List.take 4 errNames).length + 1 ≤ 1000000; decide)) (sn_frz (ρ' := [.d (.fn f), .d da, .d db, .d dc, .own s0, .d (.lst ((errNames.take 5).map (errT x))), .d (.fn ax), .no, .no]) 5 (sn_val ((errNames.take 6).map (errT x)) (s1_own 5 (mk := fun (q : List D) => [.d (.fn f), .d da, .d db, .d dc, .own s0, .own q, .d (.fn ax), .no, .no]) C.nd (ef_cat (ex_var 5) (ex_ef (ef_lst (ea_cons (ex_tup (ea_cons ex_str (ea_cons (ex_isE 6 hex hz hf b_isinstance m5 k5) ea_nil))) ea_nil))))) (cat_val (a := ((errNames.take 5).map (errT x))) (b := [errT x "InvalidTraffic"]) (by rw [List.length_map]; show (List.take 5 errNames).length + 1 ≤ 1000000; decide)) (sn_frz (ρ' := [.d (.fn f), .d da, .d db, .d dc, .own s0, .d (.lst ((errNames.take 6).map (errT x))), .d (.fn ax), .no, .no]) 5 (sn_val ((errNames.take 7).map (errT x)) (s1_own 5 (mk := fun (q : List D) => [.d (.fn f), .d da, .d db, .d dc, .own s0, .own q, .d (.fn ax), .no, .no]) C.nd (ef_cat (ex_var 5) (ex_ef (ef_lst (ea_cons (ex_tup (ea_cons ex_str (ea_cons (ex_isE 6 hex hz hf b_isinstance m6 k6) ea_nil))) ea_nil))))) (cat_val (a := ((errNames.take 6).map (errT x))) (b := [errT x "InvalidPause"]) (by rw [List.length_map]; show (List.take 6 errNames).length + 1 ≤ 1000000; decide)) (sn_frz (ρ' := [.d (.fn f), .d da, .d db, .d dc, .own s0, .d (.lst ((errNames.take 7).map (errT x))), .d (.fn ax), .no, .no]) 5 (sn_val ((errNames.take 8).map (errT x)) (s1_own 5 (mk := fun (q : List D) => [.d (.fn f), .d da, .d db, .d dc, .own s0, .own q, .d (.fn ax), .no, .no]) C.nd (ef_cat (ex_var 5) (ex_ef (ef_lst (ea_cons (ex_tup (ea_cons ex_str (ea_cons (ex_isE 6 hex hz hf b_isinstance m7 k7) ea_nil))) ea_nil))))) (cat_val (a := ((errNames.take 7).map (errT x))) (b := [errT x "InvalidGate"]) (by rw [List.length_map]; show (List.take 7 errNames).length + 1 ≤ 1000000; decide)) (sn_frz (ρ' := [.d (.fn f), .d da, .d db, .d dc, .own s0, .d (.lst ((errNames.take 8).map (errT x))), .d (.fn ax), .no, .no]) 5 (sn_val ((errNames.take 9).map (errT x)) (s1_own 5 (mk := fun (q : List D) => [.d (.fn f), .d da, .d db, .d dc, .own s0, .own q, .d (.fn ax), .no, .no]) C.nd (ef_cat (ex_var 5) (ex_ef (ef_lst (ea_cons (ex_tup (ea_cons ex_str (ea_cons (ex_isE 6 hex hz hf b_isinstance m8 k8) ea_nil))) ea_nil))))) (cat_val (a := ((errNames.take 8).map (errT x))) (b := [errT x "InvalidDecisions"]) (by rw [List.length_map]; show (List.take 8 errNames).length + 1 ≤ 1000000; decide)) (sn_frz (ρ' := [.d (.fn f), .d da, .d db, .d dc, .own s0, .d (.lst ((errNames.take 9).map (errT x))), .d (.fn ax), .no, .no]) 5 (sn_val ((errNames.take 10).map (errT x)) (s1_own 5 (mk := fun (q : List D) => [.d (.fn f), .d da, .d db, .d dc, .own s0, .own q, .d (.fn ax), .no, .no]) C.nd (ef_cat (ex_var 5) (ex_ef (ef_lst (ea_cons (ex_tup (ea_cons ex_str (ea_cons (ex_isE 6 hex hz hf b_isinstance m9 k9) ea_nil))) ea_nil))))) (cat_val (a := ((errNames.take 9).map (errT x))) (b := [errT x "InvalidLength"]) (by rw [List.length_map]; show (List.take 9 errNames).length + 1 ≤ 1000000; decide)) (sn_frz (ρ' := [.d (.fn f), .d da, .d db, .d dc, .own s0, .d (.lst ((errNames.take 10).map (errT x))), .d (.fn ax), .no, .no]) 5 (sn_val ((errNames.take 11).map (errT x)) (s1_own 5 (mk := fun (q : List D) => [.d (.fn f), .d da, .d db, .d dc, .own s0, .own q, .d (.fn ax), .no, .no]) C.nd (ef_cat (ex_var 5) (ex_ef (ef_lst (ea_cons (ex_tup (ea_cons ex_str (ea_cons (ex_isE 6 hex hz hf b_isinstance m10 k10) ea_nil))) ea_nil))))) (cat_val (a := ((errNames.take 10).map (errT x))) (b := [errT x "InvalidMessage"]) (by rw [List.length_map]; show (List.take 10 errNames).length + 1 ≤ 1000000; decide)) (sn_val ((errNames.take 12).map (errT x)) (s1_app 5 (mk := fun (q : List D) => [.d (.fn f), .d da, .d db, .d dc, .own s0, .own q, .d (.fn ax), .no, .no]) rfl (ex_tup (ea_cons ex_str (ea_cons (ex_isE 6 hex hz hf b_isinstance m11 k11) ea_nil)))) (need_of (by rw [List.length_map]; decide)) (sn_frz (ρ' := [.d (.fn f), .d da, .d db, .d dc, .own s0, .d (.lst ((errNames.take 12).map (errT x))), .d (.fn ax), .no, .no]) 5 (sn_val (D.str x :: [D.bl true]) (s1_own 4 (mk := fun (q : List D) => [.d (.fn f), .d da, .d db, .d dc, .own q, .d (.lst ((errNames.take 12).map (errT x))), .d (.fn ax), .no, .no]) C.nd (ef_cat (ex_ef (ef_pairs (own := [("name", 7), ("there", 8)]) (j1 := 7) (j2 := 8) (ds := errNames.map fun y => (D.str y, D.bl (decide (x = y)))) (ρw := [.d (.fn f), .d da, .d db, .d dc, .own s0, .d (.lst ((errNames.take 12).map (errT x))), .d (.fn ax), .no, .no]) (st := fun t => [.d (.fn f), .d da, .d db, .d dc, .own s0, .d (.lst ((errNames.take 12).map (errT x))), .d (.fn ax), .d t.1, .d t.2]) hot rfl rfl C.nd (ex_lstEq (ex_var 5) (by simp only [List.map_map]; rfl)) (blkOk_by (N := N__law_error) (sc := defScope st__law_error) (by decide +kernel)) (by rw [List.length_map]; decide) (fun s2 H2 C2 cl2 fp2 t => et_val (ex_var 8)) (fun s2 H2 C2 cl2 fp2 t => ex_var 7))) (ex_ef (ef_lst (ea_cons (ex_isV 6 hex hz hf b_isinstance b_ValueError hkv) ea_nil))))) (by have h := compW_err hx; rw [show errNames.map (errT x) = (errNames.map fun y => (D.str y, D.bl (decide (x = y)))).map (fun p => D.tup [p.1, p.2]) by rw [List.map_map]; rfl] at h; rw [h]; exact cat_val (a := [D.str x]) (b := [D.bl true]) (Nat.le_of_ble_eq_true rfl)) (sn_nil (s := [D.str x, D.bl true]) ⟨.inr rfl, .inr rfl, .inr rfl, .inr rfl, .inr rfl, .inl rfl, .inl rfl, .inl rfl, .inl rfl, trivial⟩)))))))))))))))))))))))
theorem wk__law_error {xs : List Str} (b_isinstance : mg "isinstance" = none) (b_ValueError : mg "ValueError" = none) (herr : ∀ x ∈ xs, ErrC K mg x) (hxs : ∀ x ∈ xs, x ∈ errNames) {cd : Value} (hcd : mg "DedupError" = some cd) {fa : Addr} {cdv : Value} {A : Around} {outer : List Env} {s : Shared} {H : Hp} {E : XK} (C : Cd (cx P w K mg base N__law_error "_law_error" st__law_error fa cdv A outer s H E) E 4) {f : Addr} {fd : FuncData} {ps : List Str} {den : List D → W D} (F : FnOk P w K mg base (L2N.CX P w) 4 f fd ps (SpD K mg 3 den)) (hkp : PySem.W.keepIn K (.ref f) = true) (hb : Binds K fd ps []) (da db dc : D) :
    SF (cx P w K mg base N__law_error "_law_error" st__law_error fa cdv A outer s H E) E (defBody st__law_error) [.d (.fn f), .d da, .d db, .d dc, .no, .no, .no, .no, .no] (catchF xs (den [da, db, dc])) :=
  (sf_val [] (s1_own 4 (mk := fun (q : List D) => [.d (.fn f), .d da, .d db, .d dc, .own q, .no, .no, .no, .no]) C.nd (ef_lst ea_nil)) rfl (sf_cons (s1_try (i := 6) (mk := fun (q : List D) => [.d (.fn f), .d da, .d db, .d dc, .own q, .no, .no, .no, .no]) (mkS := fun (q : List D) => [.d (.fn f), .d da, .d db, .d dc, .own q, .no, .no, .no, .no]) (s0 := []) C rfl rfl F hkp hb herr hcd rfl rfl (fun x hx a Cx' oe pn hex hall hkv hz hf hot => (su__law_error b_isinstance b_ValueError C (hxs x hx) hex hall hkv hz hf hot)) (fun _ => rfl) rfl rfl rfl rfl (.inl rfl) (.inl rfl) (.inl rfl) (.inl rfl) (by decide) (by decide) (by decide) (by decide) (by decide) (by decide) (by decide) (by decide) rfl rfl rfl rfl rfl rfl rfl rfl) fun r => sf_own 4))
theorem ok__law_error {xs : List Str} (b_isinstance : mg "isinstance" = none) (b_ValueError : mg "ValueError" = none) (herr : ∀ x ∈ xs, ErrC K mg x) (hxs : ∀ x ∈ xs, x ∈ errNames) {cd : Value} (hcd : mg "DedupError" = some cd) (F : Pk K mg "_law_error" st__law_error ["call", "a", "b", "c"]) : DefE P w K mg base 4 xs :=
  def_okE (N := N__law_error) F (fsc (by decide +kernel)) rfl fun fa cdv A outer s H E C f fd ps den Fn hkp hb da db dc => wk__law_error b_isinstance b_ValueError herr hxs hcd C Fn hkp hb da db dc

abbrev st__law_series : Stmt := topS 46
def N__law_series : List Str := ["first", "second", "log", "flags", "inner", "later", "message", "flag"]
theorem wk__law_series (b_zip : mg "zip" = none) (c__law_flags : DefD P w K mg base 4 "_law_flags" ["rule", "log"] (SpF K mg 2 den__law_flags)) {f : Addr} {cdv : Value} {A : Around} {outer : List Env} {s : Shared} {H : Hp} {E : XK} (C : Cd (cx P w K mg base N__law_series "_law_series" st__law_series f cdv A outer s H E) E 4) (v_first : D) (v_second : D) (v_log : D) :
    SF (cx P w K mg base N__law_series "_law_series" st__law_series f cdv A outer s H E) E (defBody st__law_series) [.d v_first, .d v_second, .d v_log, .no, .no, .no, .no, .no] (dn__law_series v_first v_second v_log) :=
  (sf_cons (s1_set 3 (mk := fun (q6 : D) => [.d v_first, .d v_second, .d v_log, .d q6, .no, .no, .no, .no]) C.toCg.nd (ex_call c__law_flags.plain C.toCg (by decide) (ea_cons (ex_var 0) (ea_cons (ex_var 2) ea_nil)))) (fun s7 => (sf_cons (s1_lcSet 4 (mk := fun (q23 : List D) => [.d v_first, .d v_second, .d v_log, .d s7, .d (.lst q23), .no, .no, .no]) C.toCg (lc_if [("message", 6), ("flag", 7)] (ρw := [.d v_first, .d v_second, .d v_log, .d s7, .no, .no, .no, .no]) (st := fun t17 => [.d v_first, .d v_second, .d v_log, .d s7, .no, .no, .d t17.1, .d t17.2]) (ix_zip (ea_cons (ex_var 2) (ea_cons (ex_var 3) ea_nil)) b_zip) (blkOk_by (N := N__law_series) (sc := defScope st__law_series) (by decide +kernel)) (fun s13 H13 C13 cl13 fp13 => (gx_tup (cg_bk C.toCg s13 H13 C13 cl13 fp13).calm (gxs_cons (gx_name 6 (cg_bk C.toCg s13 H13 C13 cl13 fp13).nd (st := fun v14 => [.d v_first, .d v_second, .d v_log, .d s7, .no, .no, .d v14, .no])) fun v15 => (gxs_one (gx_name 7 (cg_bk C.toCg s13 H13 C13 cl13 fp13).nd (st := fun v16 => [.d v_first, .d v_second, .d v_log, .d s7, .no, .no, .d v15, .d v16])))))) (fun s13 H13 C13 cl13 fp13 t17 => (et_val (ex_var 7))) (fun s13 H13 C13 cl13 fp13 t17 => (ex_var 6)))) (fun s24 => (sf_cons (s1_own 5 (mk := fun (q30 : List D) => [.d v_first, .d v_second, .d v_log, .d s7, .d (.lst s24), .own q30, .no, .no]) C.toCg.nd (ef_call c__law_flags C.toCg (by decide) (ea_cons (ex_var 1) (ea_cons (ex_var 4) ea_nil)))) (fun s31 => (sf_popL 5 7 C.toCg (ix_any (ex_var 3)) (blkOk_by (N := N__law_series) (sc := defScope st__law_series) (by decide +kernel)) (fun s1 H1 C1 cl1 fp1 r1 => gx_name 7 (cg_bk C.toCg s1 H1 C1 cl1 fp1).nd) rfl (by decide) (Nat.le_of_ble_eq_true rfl))))))))
theorem ok__law_series (b_zip : mg "zip" = none) (c__law_flags : DefD P w K mg base 4 "_law_flags" ["rule", "log"] (SpF K mg 2 den__law_flags)) (F : Pk K mg "_law_series" st__law_series ["first", "second", "log"]) : DefD P w K mg base 5 "_law_series" ["first", "second", "log"] (SpF K mg 3 den__law_series) :=
  def_okFP (N := N__law_series) F (fsc (by decide +kernel)) fun f cdv A outer s H E C ds h => match ds, h with | [v_first, v_second, v_log], _ => wk__law_series b_zip c__law_flags C v_first v_second v_log

abbrev st__law_list_flags : Stmt := topS 47
def N__law_list_flags : List Str := ["rules", "log"]
theorem wk__law_list_flags (b_len : mg "len" = none) (c__law_flags : DefD P w K mg base 4 "_law_flags" ["rule", "log"] (SpF K mg 2 den__law_flags)) (c__law_series : DefD P w K mg base 5 "_law_series" ["first", "second", "log"] (SpF K mg 3 den__law_series)) {f : Addr} {cdv : Value} {A : Around} {outer : List Env} {s : Shared} {H : Hp} {E : XK} (C : Cd (cx P w K mg base N__law_list_flags "_law_list_flags" st__law_list_flags f cdv A outer s H E) E 5) (v_rules : D) (v_log : D) :
    SR (cx P w K mg base N__law_list_flags "_law_list_flags" st__law_list_flags f cdv A outer s H E) E true (defBody st__law_list_flags) [.d v_rules, .d v_log] (dn__law_list_flags v_rules v_log) :=
  (sr_ret (ρ' := [.d v_rules, .d v_log]) (ex_ife (et_cmp (od_eq C.hu) (ex_callB cd_len b_len boot_len (ea_cons (ex_var 0) ea_nil)) ex_int) (ex_call c__law_flags.plain C.toCg (by decide) (ea_cons (ex_ix (ex_var 0) ex_int) (ea_cons (ex_var 1) ea_nil))) (ex_call c__law_series.plain C.toCg (by decide) (ea_cons (ex_ix (ex_var 0) ex_int) (ea_cons (ex_ix (ex_var 0) ex_int) (ea_cons (ex_var 1) ea_nil))))))
theorem ok__law_list_flags (b_len : mg "len" = none) (c__law_flags : DefD P w K mg base 4 "_law_flags" ["rule", "log"] (SpF K mg 2 den__law_flags)) (c__law_series : DefD P w K mg base 5 "_law_series" ["first", "second", "log"] (SpF K mg 3 den__law_series)) (F : Pk K mg "_law_list_flags" st__law_list_flags ["rules", "log"]) : DefD P w K mg base 6 "_law_list_flags" ["rules", "log"] (SpD K mg 2 den__law_list_flags) :=
  def_okP (N := N__law_list_flags) F (fsc (by decide +kernel)) fun f cdv A outer s H E C ds h => match ds, h with | [v_rules, v_log], _ => wk__law_list_flags b_len c__law_flags c__law_series C v_rules v_log

abbrev st__law_list : Stmt := topS 48
def N__law_list : List Str := ["bag", "rules", "turn"]
theorem wk__law_list (b_range : mg "range" = none) (b_tuple : mg "tuple" = none) (c__law_take : DefD P w K mg base 1 "_law_take" ["bag", "many"] (SpD K mg 2 takeD)) (c__law_kind : DefD P w K mg base 2 "_law_kind" ["bag"] (SpD K mg 1 den__law_kind)) {f : Addr} {cdv : Value} {A : Around} {outer : List Env} {s : Shared} {H : Hp} {E : XK} (C : Cd (cx P w K mg base N__law_list "_law_list" st__law_list f cdv A outer s H E) E 2)  :
    SR (cx P w K mg base N__law_list "_law_list" st__law_list f cdv A outer s H E) E true (defBody st__law_list) [.d .bag, .no, .no] (dn__law_list ) :=
  (sr_cons (s1_lcSet 1 (mk := fun (q32 : List D) => [.d .bag, .d (.lst q32), .no]) C.toCg (lc_plain [("turn", 2)] (ρw := [.d .bag, .no, .no]) (st := fun t13 => [.d .bag, .no, .d t13]) (ix_range1 (ea_cons (ex_bin od_add ex_int (ex_call c__law_take C.toCg (by decide) (ea_cons (ex_var 0) (ea_cons ex_int ea_nil)))) ea_nil) b_range) (blkOk_by (N := N__law_list) (sc := defScope st__law_list) (by decide +kernel)) (fun s11 H11 C11 cl11 fp11 => (gx_name 2 (cg_bk C.toCg s11 H11 C11 cl11 fp11).nd (st := fun v12 => [.d .bag, .no, .d v12]))) (fun s11 H11 C11 cl11 fp11 t13 => (ex_tup (ea_cons (ex_call c__law_kind (cg_bk C.toCg s11 H11 C11 cl11 fp11) (by decide) (ea_cons (ex_var 0) ea_nil)) (ea_cons (ex_bin od_add ex_int (ex_call c__law_take (cg_bk C.toCg s11 H11 C11 cl11 fp11) (by decide) (ea_cons (ex_var 0) (ea_cons ex_int ea_nil)))) ea_nil)))))) (fun s33 => (sr_ret (ρ' := [.d .bag, .d (.lst s33), .no]) (ex_callTy cd_tuple b_tuple boot_tuple (ea_cons (ex_var 1) ea_nil)))))
theorem ok__law_list (b_range : mg "range" = none) (b_tuple : mg "tuple" = none) (c__law_take : DefD P w K mg base 1 "_law_take" ["bag", "many"] (SpD K mg 2 takeD)) (c__law_kind : DefD P w K mg base 2 "_law_kind" ["bag"] (SpD K mg 1 den__law_kind)) (F : Pk K mg "_law_list" st__law_list ["bag"]) : DefD P w K mg base 3 "_law_list" ["bag"] (SpD K mg 1 den__law_list) :=
  def_okP (N := N__law_list) F (fsc (by decide +kernel)) fun f cdv A outer s H E C ds h => by
    unfold den__law_list
    split
    · exact wk__law_list b_range b_tuple c__law_take c__law_kind C 
    · exact sr_stuck

abbrev st__law_similar : Stmt := topS 49
def N__law_similar : List Str := ["bag", "rules", "rows", "at", "kind", "size", "way"]
theorem wk__law_similar (b_len : mg "len" = none) (b_list : mg "list" = none) (b_max : mg "max" = none) (b_min : mg "min" = none) (b_tuple : mg "tuple" = none) (c__law_take : DefD P w K mg base 1 "_law_take" ["bag", "many"] (SpD K mg 2 takeD)) {f : Addr} {cdv : Value} {A : Around} {outer : List Env} {s : Shared} {H : Hp} {E : XK} (C : Cd (cx P w K mg base N__law_similar "_law_similar" st__law_similar f cdv A outer s H E) E 1) (v_rules : D) :
    SR (cx P w K mg base N__law_similar "_law_similar" st__law_similar f cdv A outer s H E) E true (defBody st__law_similar) [.d .bag, .d v_rules, .no, .no, .no, .no, .no] (dn__law_similar v_rules) :=
  (sr_cons (s1_own 2 (mk := fun (q4 : List D) => [.d .bag, .d v_rules, .own q4, .no, .no, .no, .no]) C.toCg.nd (ef_callTy cf_list b_list boot_list (ea_cons (ex_var 1) ea_nil))) (fun s5 => (sr_cons (s1_set 3 (mk := fun (q14 : D) => [.d .bag, .d v_rules, .own s5, .d q14, .no, .no, .no]) C.toCg.nd (ex_borS (ρ' := [.d .bag, .d v_rules, .d (.lst s5), .no, .no, .no, .no]) (ex_call c__law_take C.toCg (by decide) (ea_cons (ex_var 0) (ea_cons (ex_callB cd_len b_len boot_len (ea_cons (ex_var 2) ea_nil)) ea_nil))))) (fun s15 => (sr_cons (s1_unp (st := fun q22 => [.d .bag, .d v_rules, .own s5, .d s15, .d q22.1, .d q22.2, .no]) (ex_borS (ρ' := [.d .bag, .d v_rules, .d (.lst s5), .d s15, .no, .no, .no]) (ex_ix (ex_var 2) (ex_var 3))) (gx_tup C.toCg.calm (gxs_cons (gx_name 4 C.toCg.nd (st := fun v18 => [.d .bag, .d v_rules, .own s5, .d s15, .d v18, .no, .no])) fun v19 => (gxs_one (gx_name 5 C.toCg.nd (st := fun v20 => [.d .bag, .d v_rules, .own s5, .d s15, .d v19, .d v20, .no])))))) (fun s23 => (sr_cons (s1_set 6 (mk := fun (q29 : D) => [.d .bag, .d v_rules, .own s5, .d s15, .d s23.1, .d s23.2, .d q29]) C.toCg.nd (ex_call c__law_take C.toCg (by decide) (ea_cons (ex_var 0) (ea_cons ex_int ea_nil)))) (fun s30 => (sr_cons (s1_if (mk := fun (q35 : List D) => [.d .bag, .d v_rules, .own q35, .d s15, .d s23.1, .d s23.2, .d s30]) (et_cmp (od_eq C.hu) (ex_var 6) ex_int) (sn_cons (s1_lput 2 (mk := fun (q55 : List D) => [.d .bag, .d v_rules, .own q55, .d s15, .d s23.1, .d s23.2, .d s30]) rfl (ex_tup (ea_cons (ex_var 4) (ea_cons (ex_callB (cd_max (C.toCg).calm) b_max boot_max (ea_cons ex_int (ea_cons (ex_callB (cd_min (C.toCg).calm) b_min boot_min (ea_cons ex_int (ea_cons (ex_bin od_add (ex_var 5) ex_int) ea_nil))) ea_nil))) ea_nil))) (ex_var 3)) (fun s56 => (sn_nil (s := s56) ⟨.inr rfl, ⟨.inr rfl, ⟨.inr rfl, ⟨.inr rfl, ⟨.inr rfl, ⟨.inr rfl, ⟨.inr rfl, trivial⟩⟩⟩⟩⟩⟩⟩))) (sn_cons (s1_if (mk := fun (q61 : List D) => [.d .bag, .d v_rules, .own q61, .d s15, .d s23.1, .d s23.2, .d s30]) (et_cmp (od_eq C.hu) (ex_var 6) ex_int) (sn_cons (s1_lput 2 (mk := fun (q79 : List D) => [.d .bag, .d v_rules, .own q79, .d s15, .d s23.1, .d s23.2, .d s30]) rfl (ex_tup (ea_cons (ex_dispIdx (hu1 C.hu) (edp_cons ex_str (edp_cons ex_str (edp_cons ex_str (edp_cons ex_str edp_nil)))) (ex_var 4)) (ea_cons (ex_var 5) ea_nil))) (ex_var 3)) (fun s80 => (sn_nil (s := s80) ⟨.inr rfl, ⟨.inr rfl, ⟨.inr rfl, ⟨.inr rfl, ⟨.inr rfl, ⟨.inr rfl, ⟨.inr rfl, trivial⟩⟩⟩⟩⟩⟩⟩))) (sn_cons (s1_if (mk := fun (q85 : List D) => [.d .bag, .d v_rules, .own q85, .d s15, .d s23.1, .d s23.2, .d s30]) (et_cmp (od_eq C.hu) (ex_var 6) ex_int) (sn_cons (s1_own 2 (mk := fun (q88 : List D) => [.d .bag, .d v_rules, .own q88, .d s15, .d s23.1, .d s23.2, .d s30]) C.toCg.nd (ef_borS (ρ' := [.d .bag, .d v_rules, .d (.lst s5), .d s15, .d s23.1, .d s23.2, .d s30]) (ef_rev (ex_var 2)))) (fun s89 => (sn_nil (s := s89) ⟨.inr rfl, ⟨.inr rfl, ⟨.inr rfl, ⟨.inr rfl, ⟨.inr rfl, ⟨.inr rfl, ⟨.inr rfl, trivial⟩⟩⟩⟩⟩⟩⟩))) (sn_cons (s1_own 2 (mk := fun (q113 : List D) => [.d .bag, .d v_rules, .own q113, .d s15, .d s23.1, .d s23.2, .d s30]) C.toCg.nd (ef_borS (ρ' := [.d .bag, .d v_rules, .d (.lst s5), .d s15, .d s23.1, .d s23.2, .d s30]) (ef_slc (ex_bin od_add (ex_var 2) (ex_ef (ef_lst (ea_cons (ex_tup (ea_cons (ex_var 4) (ea_cons (ex_bin od_add ex_int (ex_call c__law_take C.toCg (by decide) (ea_cons (ex_var 0) (ea_cons (ex_var 5) ea_nil)))) ea_nil))) ea_nil)))) eo_none (eo_some ex_int)))) (fun s114 => (sn_nil (s := s114) ⟨.inr rfl, ⟨.inr rfl, ⟨.inr rfl, ⟨.inr rfl, ⟨.inr rfl, ⟨.inr rfl, ⟨.inr rfl, trivial⟩⟩⟩⟩⟩⟩⟩)))) (fun s115 => (sn_nil (s := s115) ⟨.inr rfl, ⟨.inr rfl, ⟨.inr rfl, ⟨.inr rfl, ⟨.inr rfl, ⟨.inr rfl, ⟨.inr rfl, trivial⟩⟩⟩⟩⟩⟩⟩)))) (fun s116 => (sn_nil (s := s116) ⟨.inr rfl, ⟨.inr rfl, ⟨.inr rfl, ⟨.inr rfl, ⟨.inr rfl, ⟨.inr rfl, ⟨.inr rfl, trivial⟩⟩⟩⟩⟩⟩⟩)))) (fun s117 => (sr_frz (ρ' := [.d .bag, .d v_rules, .d (.lst s117), .d s15, .d s23.1, .d s23.2, .d s30]) 2 (sr_ret (ρ' := [.d .bag, .d v_rules, .d (.lst s117), .d s15, .d s23.1, .d s23.2, .d s30]) (ex_callTy cd_tuple b_tuple boot_tuple (ea_cons (ex_var 2) ea_nil))))))))))))))
theorem ok__law_similar (b_len : mg "len" = none) (b_list : mg "list" = none) (b_max : mg "max" = none) (b_min : mg "min" = none) (b_tuple : mg "tuple" = none) (c__law_take : DefD P w K mg base 1 "_law_take" ["bag", "many"] (SpD K mg 2 takeD)) (F : Pk K mg "_law_similar" st__law_similar ["bag", "rules"]) : DefD P w K mg base 2 "_law_similar" ["bag", "rules"] (SpD K mg 2 den__law_similar) :=
  def_okP (N := N__law_similar) F (fsc (by decide +kernel)) fun f cdv A outer s H E C ds h => by
    unfold den__law_similar
    split
    · exact wk__law_similar b_len b_list b_max b_min b_tuple c__law_take C _
    · exact sr_stuck

abbrev st__law_logs : Stmt := topS 50
def N__law_logs : List Str := ["length", "logs", "turn", "longer", "log", "gap", "tick"]
theorem wk__law_logs (b_range : mg "range" = none) {f : Addr} {cdv : Value} {A : Around} {outer : List Env} {s : Shared} {H : Hp} {E : XK} (C : Cd (cx P w K mg base N__law_logs "_law_logs" st__law_logs f cdv A outer s H E) E 0) (v_length : D) :
    SR (cx P w K mg base N__law_logs "_law_logs" st__law_logs f cdv A outer s H E) E true (defBody st__law_logs) [.d v_length, .no, .no, .no, .no, .no, .no] (dn__law_logs v_length) :=
  (sr_cons (s1_set 1 (mk := fun (q5 : D) => [.d v_length, .d q5, .no, .no, .no, .no, .no]) C.toCg.nd (ex_ef (ef_lst (ea_cons (ex_tup ea_nil) ea_nil)))) (fun s6 => (sr_cons (s1_for (mk := fun (q14 : D) => [.d v_length, .d q14, .no, .no, .no, .no, .no]) (s0 := s6) (pat := pure) (st := fun (s11 : D) t12 => [.d v_length, .d s11, .d t12, .no, .no, .no, .no]) C.own C.toCg.calm (ix_range1 (ea_cons (ex_var 0) ea_nil) b_range) ⟨.inr rfl, ⟨.inr rfl, ⟨.inl rfl, ⟨.inl rfl, ⟨.inl rfl, ⟨.inl rfl, ⟨.inl rfl, trivial⟩⟩⟩⟩⟩⟩⟩ (fun (s11 : D) => (gx_name 2 C.toCg.nd (st := fun v13 => [.d v_length, .d s11, .d v13, .no, .no, .no, .no]))) (fun (s11 : D) t12 => (sn_cons (s1_set 3 (mk := fun (q16 : D) => [.d v_length, .d s11, .d t12, .d q16, .no, .no, .no]) C.toCg.nd (ex_ef (ef_lst ea_nil))) (fun s17 => (sn_cons (s1_for (mk := fun (q23 : D) => [.d v_length, .d s11, .d t12, .d q23, .no, .no, .no]) (s0 := s17) (pat := pure) (st := fun (s20 : D) t21 => [.d v_length, .d s11, .d t12, .d s20, .d t21, .no, .no]) C.own C.toCg.calm (ix_any (ex_var 1)) ⟨.inr rfl, ⟨.inr rfl, ⟨.inr rfl, ⟨.inr rfl, ⟨.inl rfl, ⟨.inl rfl, ⟨.inl rfl, trivial⟩⟩⟩⟩⟩⟩⟩ (fun (s20 : D) => (gx_name 4 C.toCg.nd (st := fun v22 => [.d v_length, .d s11, .d t12, .d s20, .d v22, .no, .no]))) (fun (s20 : D) t21 => (sn_cons (s1_for (mk := fun (q36 : D) => [.d v_length, .d s11, .d t12, .d q36, .d t21, .no, .no]) (s0 := s20) (pat := pure) (st := fun (s33 : D) t34 => [.d v_length, .d s11, .d t12, .d s33, .d t21, .d t34, .no]) C.own C.toCg.calm (ix_range1 (ea_cons (ex_ife (et_cmp (od_ne C.hu) (ex_var 4) (ex_tup ea_nil)) ex_int ex_int) ea_nil) b_range) ⟨.inr rfl, ⟨.inr rfl, ⟨.inr rfl, ⟨.inr rfl, ⟨.inr rfl, ⟨.inl rfl, ⟨.inl rfl, trivial⟩⟩⟩⟩⟩⟩⟩ (fun (s33 : D) => (gx_name 5 C.toCg.nd (st := fun v35 => [.d v_length, .d s11, .d t12, .d s33, .d t21, .d v35, .no]))) (fun (s33 : D) t34 => (sn_cons (s1_set 6 (mk := fun (q49 : D) => [.d v_length, .d s11, .d t12, .d s33, .d t21, .d t34, .d q49]) C.toCg.nd (ex_ife (et_cmp (od_ne C.hu) (ex_var 4) (ex_tup ea_nil)) (ex_bin od_add (ex_ix (ex_ix (ex_var 4) (ex_neg ex_int)) ex_int) (ex_var 5)) ex_int)) (fun s50 => (sn_cons (s1_set 3 (mk := fun (q90 : D) => [.d v_length, .d s11, .d t12, .d q90, .d t21, .d t34, .d s50]) C.toCg.nd (ex_bin od_add (ex_var 3) (ex_ef (ef_lst (ea_cons (ex_bin od_add (ex_var 4) (ex_tup (ea_cons (ex_tup (ea_cons (ex_var 6) (ea_cons ex_str ea_nil))) ea_nil))) (ea_cons (ex_bin od_add (ex_var 4) (ex_tup (ea_cons (ex_tup (ea_cons (ex_var 6) (ea_cons ex_str ea_nil))) ea_nil))) (ea_cons (ex_bin od_add (ex_var 4) (ex_tup (ea_cons (ex_tup (ea_cons (ex_var 6) (ea_cons ex_str ea_nil))) ea_nil))) ea_nil))))))) (fun s91 => (sn_nil (s := s91) ⟨.inr rfl, ⟨.inr rfl, ⟨.inr rfl, ⟨.inr rfl, ⟨.inr rfl, ⟨.inl rfl, ⟨.inl rfl, trivial⟩⟩⟩⟩⟩⟩⟩))))))) (fun s92 => (sn_nil (s := s92) ⟨.inr rfl, ⟨.inr rfl, ⟨.inr rfl, ⟨.inr rfl, ⟨.inl rfl, ⟨.inl rfl, ⟨.inl rfl, trivial⟩⟩⟩⟩⟩⟩⟩))))) (fun s93 => (sn_cons (s1_set 1 (mk := fun (q94 : D) => [.d v_length, .d q94, .d t12, .d s93, .no, .no, .no]) C.toCg.nd (ex_var 3)) (fun s95 => (sn_nil (s := s95) ⟨.inr rfl, ⟨.inr rfl, ⟨.inl rfl, ⟨.inl rfl, ⟨.inl rfl, ⟨.inl rfl, ⟨.inl rfl, trivial⟩⟩⟩⟩⟩⟩⟩))))))))) (fun s96 => (sr_ret (ρ' := [.d v_length, .d s96, .no, .no, .no, .no, .no]) (ex_var 1))))))
theorem ok__law_logs (b_range : mg "range" = none) (F : Pk K mg "_law_logs" st__law_logs ["length"]) : DefD P w K mg base 1 "_law_logs" ["length"] (SpD K mg 1 den__law_logs) :=
  def_okP (N := N__law_logs) F (fsc (by decide +kernel)) fun f cdv A outer s H E C ds h => match ds, h with | [v_length], _ => wk__law_logs b_range C v_length

abbrev st__law_telling : Stmt := topS 51
def N__law_telling : List Str := ["one", "other", "length", "size", "log"]
theorem wk__law_telling (b_range : mg "range" = none) (c__law_logs : DefD P w K mg base 1 "_law_logs" ["length"] (SpD K mg 1 den__law_logs)) (c__law_list_flags : DefD P w K mg base 6 "_law_list_flags" ["rules", "log"] (SpD K mg 2 den__law_list_flags)) {f : Addr} {cdv : Value} {A : Around} {outer : List Env} {s : Shared} {H : Hp} {E : XK} (C : Cd (cx P w K mg base N__law_telling "_law_telling" st__law_telling f cdv A outer s H E) E 6) (v_one : D) (v_other : D) (v_length : D) :
    SR (cx P w K mg base N__law_telling "_law_telling" st__law_telling f cdv A outer s H E) E true (defBody st__law_telling) [.d v_one, .d v_other, .d v_length, .no, .no] (dn__law_telling v_one v_other v_length) :=
  (sr_cons2 (s2_for (mk := fun (q12 : Unit) => [.d v_one, .d v_other, .d v_length, .no, .no]) (s0 := ()) (pat := pure) (st := fun (s9 : Unit) t10 => [.d v_one, .d v_other, .d v_length, .d t10, .no]) C.own C.toCg.calm (ix_range2 (ea_cons ex_int (ea_cons (ex_bin od_add (ex_var 2) ex_int) ea_nil)) b_range) ⟨.inr rfl, ⟨.inr rfl, ⟨.inr rfl, ⟨.inl rfl, ⟨.inl rfl, trivial⟩⟩⟩⟩⟩ (fun (s9 : Unit) => (gx_name 3 C.toCg.nd (st := fun v11 => [.d v_one, .d v_other, .d v_length, .d v11, .no]))) (fun (s9 : Unit) t10 => (sx_cons2 (s2_for (mk := fun (q21 : Unit) => [.d v_one, .d v_other, .d v_length, .d t10, .no]) (s0 := ()) (pat := pure) (st := fun (s18 : Unit) t19 => [.d v_one, .d v_other, .d v_length, .d t10, .d t19]) C.own C.toCg.calm (ix_any (ex_call c__law_logs C.toCg (by decide) (ea_cons (ex_var 3) ea_nil))) ⟨.inr rfl, ⟨.inr rfl, ⟨.inr rfl, ⟨.inr rfl, ⟨.inl rfl, trivial⟩⟩⟩⟩⟩ (fun (s18 : Unit) => (gx_name 4 C.toCg.nd (st := fun v20 => [.d v_one, .d v_other, .d v_length, .d t10, .d v20]))) (fun (s18 : Unit) t19 => (sx_ifr (et_cmp (od_ne C.hu) (ex_ix (ex_call c__law_list_flags C.toCg (by decide) (ea_cons (ex_var 0) (ea_cons (ex_var 4) ea_nil))) (ex_neg ex_int)) (ex_ix (ex_call c__law_list_flags C.toCg (by decide) (ea_cons (ex_var 1) (ea_cons (ex_var 4) ea_nil))) (ex_neg ex_int))) (sr_ret (ρ' := [.d v_one, .d v_other, .d v_length, .d t10, .d t19]) (ex_var 4)) (sx_nil (s := ()) ⟨.inr rfl, ⟨.inr rfl, ⟨.inr rfl, ⟨.inr rfl, ⟨.inl rfl, trivial⟩⟩⟩⟩⟩)))) (fun _ => (sx_nil (s := ()) ⟨.inr rfl, ⟨.inr rfl, ⟨.inr rfl, ⟨.inl rfl, ⟨.inl rfl, trivial⟩⟩⟩⟩⟩))))) (fun _ => (sr_ret (ρ' := [.d v_one, .d v_other, .d v_length, .no, .no]) ex_non)))
theorem ok__law_telling (b_range : mg "range" = none) (c__law_logs : DefD P w K mg base 1 "_law_logs" ["length"] (SpD K mg 1 den__law_logs)) (c__law_list_flags : DefD P w K mg base 6 "_law_list_flags" ["rules", "log"] (SpD K mg 2 den__law_list_flags)) (F : Pk K mg "_law_telling" st__law_telling ["one", "other", "length"]) : DefD P w K mg base 7 "_law_telling" ["one", "other", "length"] (SpD K mg 3 den__law_telling) :=
  def_okP (N := N__law_telling) F (fsc (by decide +kernel)) fun f cdv A outer s H E C ds h => match ds, h with | [v_one, v_other, v_length], _ => wk__law_telling b_range c__law_logs c__law_list_flags C v_one v_other v_length

abbrev st_law : Stmt := topS 52
def N_law : List Str := ["script", "bag", "one", "other", "bad", "odd", "length", "due"]
def bodyL : List Stmt := match defBody st_law with | .For _ _ b _ _ :: _ => b | _ => []
def restL : List Stmt := match defBody st_law with | _ :: r => r | _ => []
theorem wkB_law (b_list : mg "list" = none) (c__law_list : DefD P w K mg base 3 "_law_list" ["bag"] (SpD K mg 1 den__law_list)) (c__law_similar : DefD P w K mg base 2 "_law_similar" ["bag", "rules"] (SpD K mg 2 den__law_similar)) (c__law_take : DefD P w K mg base 1 "_law_take" ["bag", "many"] (SpD K mg 2 takeD)) (c__law_telling : DefD P w K mg base 7 "_law_telling" ["one", "other", "length"] (SpD K mg 3 den__law_telling)) (c_telling_log : DefD P w K mg base 4 "telling_log" ["one", "other", "length"] (SpD K mg 3 den_telling_log)) (c__law_error : DefE P w K mg base 4 errX) (c__law_bags : DefD P w K mg base 3 "_law_bags" ["script", "limit"] (SpD K mg 2 den__law_bags)) {f : Addr} {cdv : Value} {A : Around} {outer : List Env} {s : Shared} {H : Hp} {E : XK} (C : Cd (cx P w K mg base N_law "law" st_law f cdv A outer s H E) E 7) (ns : List Int) : SX (cx P w K mg base N_law "law" st_law f cdv A outer s H E) E bodyL [.d (.scr ns), .d .bag, .no, .no, .no, .no, .no, .no] (fun _ : Unit => [.d (.scr ns), .no, .no, .no, .no, .no, .no, .no]) (dnB_law ns) :=
  (sx_cons (s1_set 2 (mk := fun (q4 : D) => [.d (.scr ns), .d .bag, .d q4, .no, .no, .no, .no, .no]) C.toCg.nd (ex_call c__law_list C.toCg (by decide) (ea_cons (ex_var 1) ea_nil))) (fun s5 => (sx_cons2 (s2_for (mk := fun (q24 : Unit) => [.d (.scr ns), .d .bag, .d s5, .no, .no, .no, .no, .no]) (s0 := ()) (pat := pure) (st := fun (s21 : Unit) t22 => [.d (.scr ns), .d .bag, .d s5, .d t22, .no, .no, .no, .no]) C.own C.toCg.calm (ix_any (ex_tup (ea_cons (ex_call c__law_similar C.toCg (by decide) (ea_cons (ex_var 1) (ea_cons (ex_var 2) ea_nil))) (ea_cons (ex_call c__law_list C.toCg (by decide) (ea_cons (ex_var 1) ea_nil)) ea_nil)))) ⟨.inr rfl, ⟨.inr rfl, ⟨.inr rfl, ⟨.inl rfl, ⟨.inl rfl, ⟨.inl rfl, ⟨.inl rfl, ⟨.inl rfl, trivial⟩⟩⟩⟩⟩⟩⟩⟩ (fun (s21 : Unit) => (gx_name 3 C.toCg.nd (st := fun v23 => [.d (.scr ns), .d .bag, .d s5, .d v23, .no, .no, .no, .no]))) (fun (s21 : Unit) t22 => (sx_cons (s1_set 6 (mk := fun (q32 : D) => [.d (.scr ns), .d .bag, .d s5, .d t22, .no, .no, .d q32, .no]) C.toCg.nd (ex_bin od_add ex_int (ex_call c__law_take C.toCg (by decide) (ea_cons (ex_var 1) (ea_cons ex_int ea_nil))))) (fun s33 => (sx_cons (s1_set 7 (mk := fun (q41 : D) => [.d (.scr ns), .d .bag, .d s5, .d t22, .no, .no, .d s33, .d q41]) C.toCg.nd (ex_call c__law_telling C.toCg (by decide) (ea_cons (ex_var 2) (ea_cons (ex_var 3) (ea_cons (ex_var 6) ea_nil))))) (fun s42 => (sx_ifr (ev_et (ev_or (et_cmp (od_ne C.hu) (ex_call c_telling_log C.toCg (by decide) (ea_cons (ex_var 2) (ea_cons (ex_var 3) (ea_cons (ex_var 6) ea_nil)))) (ex_var 7)) (ev_or1 (et_cmp (od_ne C.hu) (ex_call c_telling_log C.toCg (by decide) (ea_cons (ex_var 3) (ea_cons (ex_var 2) (ea_cons (ex_var 6) ea_nil)))) (ex_var 7))))) (sr_ret (ρ' := [.d (.scr ns), .d .bag, .d s5, .d t22, .no, .no, .d s33, .d s42]) ex_bl) (sx_nil (s := ()) ⟨.inr rfl, ⟨.inr rfl, ⟨.inr rfl, ⟨.inl rfl, ⟨.inl rfl, ⟨.inl rfl, ⟨.inl rfl, ⟨.inl rfl, trivial⟩⟩⟩⟩⟩⟩⟩⟩)))))))) (fun _ => (sx_ifr (et_cmp (od_isNot) (ex_call c_telling_log C.toCg (by decide) (ea_cons (ex_var 2) (ea_cons (ex_var 2) (ea_cons ex_int ea_nil)))) ex_non) (sr_ret (ρ' := [.d (.scr ns), .d .bag, .d s5, .no, .no, .no, .no, .no]) ex_bl) (sx_cons2 (s2_for (mk := fun (q124 : Unit) => [.d (.scr ns), .d .bag, .d s5, .no, .no, .no, .no, .no]) (s0 := ()) (pat := pure) (st := fun (s121 : Unit) t122 => [.d (.scr ns), .d .bag, .d s5, .no, .d t122, .no, .no, .no]) C.own C.toCg.calm (ix_any (ex_tup (ea_cons ex_non (ea_cons (ex_tup ea_nil) (ea_cons (ex_ix (ex_var 2) ex_int) (ea_cons (ex_ef (ef_callTy cf_list b_list boot_list (ea_cons (ex_var 2) ea_nil))) (ea_cons (ex_tup (ea_cons (ex_tup (ea_cons ex_str (ea_cons ex_int ea_nil))) ea_nil)) (ea_cons (ex_bin od_mul (ex_var 2) ex_int) (ea_cons (ex_tup (ea_cons (ex_tup (ea_cons ex_str (ea_cons ex_int ea_nil))) (ea_cons ex_non ea_nil))) ea_nil))))))))) ⟨.inr rfl, ⟨.inr rfl, ⟨.inr rfl, ⟨.inl rfl, ⟨.inl rfl, ⟨.inl rfl, ⟨.inl rfl, ⟨.inl rfl, trivial⟩⟩⟩⟩⟩⟩⟩⟩ (fun (s121 : Unit) => (gx_name 4 C.toCg.nd (st := fun v123 => [.d (.scr ns), .d .bag, .d s5, .no, .d v123, .no, .no, .no]))) (fun (s121 : Unit) t122 => (sx_ifr (et_cmp (od_ne C.hu) (ex_ef (ef_err c__law_error (c_telling_log.mono (by decide)) C.toCg (by decide) (ea_cons (ex_var 4) (ea_cons ex_non (ea_cons ex_non ea_nil))))) (ex_ef (ef_lst (ea_cons ex_str (ea_cons ex_bl ea_nil))))) (sr_ret (ρ' := [.d (.scr ns), .d .bag, .d s5, .no, .d t122, .no, .no, .no]) ex_bl) (sx_ifr (et_cmp (od_ne C.hu) (ex_ef (ef_err c__law_error (c_telling_log.mono (by decide)) C.toCg (by decide) (ea_cons (ex_var 2) (ea_cons (ex_var 4) (ea_cons ex_non ea_nil))))) (ex_ef (ef_lst (ea_cons ex_str (ea_cons ex_bl ea_nil))))) (sr_ret (ρ' := [.d (.scr ns), .d .bag, .d s5, .no, .d t122, .no, .no, .no]) ex_bl) (sx_nil (s := ()) ⟨.inr rfl, ⟨.inr rfl, ⟨.inr rfl, ⟨.inl rfl, ⟨.inl rfl, ⟨.inl rfl, ⟨.inl rfl, ⟨.inl rfl, trivial⟩⟩⟩⟩⟩⟩⟩⟩))))) (fun _ => (sx_cons2 (s2_for (mk := fun (q172 : Unit) => [.d (.scr ns), .d .bag, .d s5, .no, .no, .no, .no, .no]) (s0 := ()) (pat := pure) (st := fun (s169 : Unit) t170 => [.d (.scr ns), .d .bag, .d s5, .no, .no, .d t170, .no, .no]) C.own C.toCg.calm (ix_any (ex_tup (ea_cons ex_int (ea_cons ex_int (ea_cons ex_bl (ea_cons ex_non ea_nil)))))) ⟨.inr rfl, ⟨.inr rfl, ⟨.inr rfl, ⟨.inl rfl, ⟨.inl rfl, ⟨.inl rfl, ⟨.inl rfl, ⟨.inl rfl, trivial⟩⟩⟩⟩⟩⟩⟩⟩ (fun (s169 : Unit) => (gx_name 5 C.toCg.nd (st := fun v171 => [.d (.scr ns), .d .bag, .d s5, .no, .no, .d v171, .no, .no]))) (fun (s169 : Unit) t170 => (sx_ifr (et_cmp (od_ne C.hu) (ex_ef (ef_err c__law_error (c_telling_log.mono (by decide)) C.toCg (by decide) (ea_cons (ex_var 2) (ea_cons (ex_var 2) (ea_cons (ex_var 5) ea_nil))))) (ex_ef (ef_lst (ea_cons ex_str (ea_cons ex_bl ea_nil))))) (sr_ret (ρ' := [.d (.scr ns), .d .bag, .d s5, .no, .no, .d t170, .no, .no]) ex_bl) (sx_nil (s := ()) ⟨.inr rfl, ⟨.inr rfl, ⟨.inr rfl, ⟨.inl rfl, ⟨.inl rfl, ⟨.inl rfl, ⟨.inl rfl, ⟨.inl rfl, trivial⟩⟩⟩⟩⟩⟩⟩⟩)))) (fun _ => (sx_nil (s := ()) ⟨.inr rfl, ⟨.inl rfl, ⟨.inl rfl, ⟨.inl rfl, ⟨.inl rfl, ⟨.inl rfl, ⟨.inl rfl, ⟨.inl rfl, trivial⟩⟩⟩⟩⟩⟩⟩⟩))))))))))
theorem wkR_law (b_list : mg "list" = none) (c__law_list : DefD P w K mg base 3 "_law_list" ["bag"] (SpD K mg 1 den__law_list)) (c__law_similar : DefD P w K mg base 2 "_law_similar" ["bag", "rules"] (SpD K mg 2 den__law_similar)) (c__law_take : DefD P w K mg base 1 "_law_take" ["bag", "many"] (SpD K mg 2 takeD)) (c__law_telling : DefD P w K mg base 7 "_law_telling" ["one", "other", "length"] (SpD K mg 3 den__law_telling)) (c_telling_log : DefD P w K mg base 4 "telling_log" ["one", "other", "length"] (SpD K mg 3 den_telling_log)) (c__law_error : DefE P w K mg base 4 errX) (c__law_bags : DefD P w K mg base 3 "_law_bags" ["script", "limit"] (SpD K mg 2 den__law_bags)) {f : Addr} {cdv : Value} {A : Around} {outer : List Env} {s : Shared} {H : Hp} {E : XK} (C : Cd (cx P w K mg base N_law "law" st_law f cdv A outer s H E) E 7) (ns : List Int) : SR (cx P w K mg base N_law "law" st_law f cdv A outer s H E) E false restL [.d (.scr ns), .no, .no, .no, .no, .no, .no, .no] (dnR_law ns) :=
  (sr_ifr (et_cmp (od_ne C.hu) (ex_call c_telling_log C.toCg (by decide) (ea_cons (ex_tup (ea_cons (ex_tup (ea_cons ex_str (ea_cons ex_int ea_nil))) ea_nil)) (ea_cons (ex_tup (ea_cons (ex_tup (ea_cons ex_str (ea_cons ex_int ea_nil))) ea_nil)) (ea_cons ex_int ea_nil)))) (ex_tup (ea_cons (ex_tup (ea_cons ex_int (ea_cons ex_str ea_nil))) (ea_cons (ex_tup (ea_cons ex_int (ea_cons ex_str ea_nil))) ea_nil)))) (sr_ret (ρ' := [.d (.scr ns), .no, .no, .no, .no, .no, .no, .no]) ex_bl) (sr_ret (ρ' := [.d (.scr ns), .no, .no, .no, .no, .no, .no, .no]) (ex_cmp (od_eq C.hu) (ex_call c_telling_log C.toCg (by decide) (ea_cons (ex_tup (ea_cons (ex_tup (ea_cons ex_str (ea_cons ex_int ea_nil))) ea_nil)) (ea_cons (ex_tup (ea_cons (ex_tup (ea_cons ex_str (ea_cons ex_int ea_nil))) ea_nil)) (ea_cons ex_int ea_nil)))) (ex_tup (ea_cons (ex_tup (ea_cons ex_int (ea_cons ex_str ea_nil))) (ea_cons (ex_tup (ea_cons ex_int (ea_cons ex_str ea_nil))) (ea_cons (ex_tup (ea_cons ex_int (ea_cons ex_str ea_nil))) ea_nil)))))))
theorem ok_law (b_list : mg "list" = none) (c__law_list : DefD P w K mg base 3 "_law_list" ["bag"] (SpD K mg 1 den__law_list)) (c__law_similar : DefD P w K mg base 2 "_law_similar" ["bag", "rules"] (SpD K mg 2 den__law_similar)) (c__law_take : DefD P w K mg base 1 "_law_take" ["bag", "many"] (SpD K mg 2 takeD)) (c__law_telling : DefD P w K mg base 7 "_law_telling" ["one", "other", "length"] (SpD K mg 3 den__law_telling)) (c_telling_log : DefD P w K mg base 4 "telling_log" ["one", "other", "length"] (SpD K mg 3 den_telling_log)) (c__law_error : DefE P w K mg base 4 errX) (c__law_bags : DefD P w K mg base 3 "_law_bags" ["script", "limit"] (SpD K mg 2 den__law_bags)) {f : Addr} {fd : FuncData} (F : Fun K "law" "law" st_law f fd)
    (hB : ∀ ns : List Int, (∀ z ∈ ns, Builtin.Int.intBits z ≤ 1048576) → den__law_bags [.scr ns, .int 2] (fun d => ∃ bss : List (List Int), d = .lst (bss.map bagD) ∧ ∀ ds ∈ bss, drawsOk ds) fun _ => False)
    (hfB : ∀ ns (Q : Out Unit → Prop), (∀ o, goodO o → Q o) → (dnB_law ns) Q fun _ => False) (hfR : ∀ ns, (dnR_law ns) (fun d => d = .bl true) fun _ => False) : FnOk P w K mg base (L2N.CX P w) 8 f fd ["script"] (spLaw K) :=
  law_ok (N := N_law) (k := 7) (ib := 1) (lim := 2) (body := bodyL) (rest := restL) (fB := dnB_law) (fR := dnR_law) F (fsc (by decide +kernel)) (by rfl) (by rfl) (by rfl) (c__law_bags.mono (by decide)) hB (by decide) (by decide)
    (fun cdv A outer s H E C ns => wkB_law b_list c__law_list c__law_similar c__law_take c__law_telling c_telling_log c__law_error c__law_bags C ns) hfB (fun cdv A outer s H E C ns => wkR_law b_list c__law_list c__law_similar c__law_take c__law_telling c_telling_log c__law_error c__law_bags C ns) hfR
    (fun cdv A outer s H E ns => gx_name 1 (fsc (N := N_law) (P := ["script"]) (sc := defScope st_law) (by decide +kernel)).nd)
    (fun cdv A outer s H E C ns => ea_bags c__law_bags C.toCg (by decide))

end
end DG

/-! ## PP -/
set_option Elab.async false
set_option linter.all false
set_option maxRecDepth 100000
set_option maxHeartbeats 4000000
namespace DG
open PySem PySem.Spec PyProof.Rows L2
/-! ### gates in series -/
abbrev Ru := Kd × Int
def ruD (r : Ru) : D := ruleD r.1 r.2
def cstep (t : Int) (x : Str) (s : Bool × List Mem) (a : Ru × Mem) : Bool × List Mem :=
  if s.1 = true then ((recG a.1.1 a.1.2 a.2 t x).1, s.2 ++ [(recG a.1.1 a.1.2 a.2 t x).2]) else (false, s.2 ++ [a.2])
def chainM (rs : List Ru) (ss : List Mem) (t : Int) (x : Str) : Bool × List Mem := (rs.zip ss).foldl (cstep t x) (true, [])
theorem cstep_len (t : Int) (x : Str) (as : List (Ru × Mem)) : (as.foldl (cstep t x) (true, [])).2.length = as.length := by
  have : ∀ (as : List (Ru × Mem)) (s : Bool × List Mem), (as.foldl (cstep t x) s).2.length = s.2.length + as.length := by
    intro as
    induction as with
    | nil => intro s; rfl
    | cons a as ih =>
      intro s
      rw [List.foldl_cons, ih]
      unfold cstep
      split <;> simp <;> omega
  simpa using this as (true, [])
theorem zipT_tup (as bs : List D) : zipTD [.tup as, .tup bs] = pure (pairL as bs) := rfl
theorem zipT_pr (as bs : List D) : zipTD [.tup as, .pr bs] = pure (pairL as bs) := rfl
theorem chain_eq (rs : List Ru) (ss : List Mem) (t : Int) (x : Str) (h1 : ∀ r ∈ rs, 1 ≤ r.2) (h2 : ∀ s ∈ ss, s.length ≤ 1000) (h3 : rs.length ≤ 1000) :
    den_chain_received [.tup (rs.map ruD), .tup (ss.map memD), .int t, .str x] = pure (.tup [.bl (chainM rs ss t x).1, .tup ((chainM rs ss t x).2.map memD)]) := by
  show dn_chain_received _ _ _ _ = _
  unfold dn_chain_received
  simp only [pure_bind, zipT_tup, pairL_map]
  refine step (for_pre (fun p : Ru × Mem => D.pr [ruD p.1, memD p.2]) (fun pre => ((D.bl (pre.foldl (cstep t x) (true, [])).1, (pre.foldl (cstep t x) (true, [])).2.map memD) : D × List D)) (rs.zip ss) fun pre a post e => ?_) ?_
  · have ha : a ∈ rs.zip ss := by rw [e]; simp
    have hr : a.1 ∈ rs := (List.of_mem_zip (a := a.1) (b := a.2) ha).1
    have hs : a.2 ∈ ss := (List.of_mem_zip (a := a.1) (b := a.2) ha).2
    have hlen : pre.length ≤ 1000 := by
      have := congrArg List.length e
      rw [List.length_zip, List.length_append] at this
      omega
    have n1 : ((pre.foldl (cstep t x) (true, [])).2.map memD).length ≤ 100000 := by rw [List.length_map, cstep_len]; omega
    have hrec := received_eq a.1.1 a.1.2 a.2 t x (h1 _ hr) (h2 _ hs)
    have hru : ruD a.1 = ruleD a.1.1 a.1.2 := rfl
    rw [List.foldl_append, List.foldl_cons, List.foldl_nil]
    generalize pre.foldl (cstep t x) (true, []) = s at n1 ⊢
    obtain ⟨b, ms⟩ := s
    simp only [pat2P, pure_bind, boolD_bl, hru, hrec, pat2T]
    unfold cstep
    cases b with
    | true => simp only [if_true, pure_bind, need_lt n1, List.map_append, List.map_cons, List.map_nil]
    | false => simp only [Bool.false_eq_true, if_false, pure_bind, need_lt n1, List.map_append, List.map_cons, List.map_nil]
  · simp only [pure_bind]
    rfl
theorem chain_eqP (rs : List Ru) (ss : List Mem) (t : Int) (x : Str) (h1 : ∀ r ∈ rs, 1 ≤ r.2) (h2 : ∀ s ∈ ss, s.length ≤ 1000) (h3 : rs.length ≤ 1000) :
    den_chain_received [.tup (rs.map ruD), .pr (ss.map memD), .int t, .str x] = pure (.tup [.bl (chainM rs ss t x).1, .tup ((chainM rs ss t x).2.map memD)]) := by
  show dn_chain_received _ _ _ _ = _
  unfold dn_chain_received
  simp only [pure_bind, zipT_pr, pairL_map]
  refine step (for_pre (fun p : Ru × Mem => D.pr [ruD p.1, memD p.2]) (fun pre => ((D.bl (pre.foldl (cstep t x) (true, [])).1, (pre.foldl (cstep t x) (true, [])).2.map memD) : D × List D)) (rs.zip ss) fun pre a post e => ?_) ?_
  · have ha : a ∈ rs.zip ss := by rw [e]; simp
    have hr : a.1 ∈ rs := (List.of_mem_zip (a := a.1) (b := a.2) ha).1
    have hs : a.2 ∈ ss := (List.of_mem_zip (a := a.1) (b := a.2) ha).2
    have hlen : pre.length ≤ 1000 := by
      have := congrArg List.length e
      rw [List.length_zip, List.length_append] at this
      omega
    have n1 : ((pre.foldl (cstep t x) (true, [])).2.map memD).length ≤ 100000 := by rw [List.length_map, cstep_len]; omega
    have hrec := received_eq a.1.1 a.1.2 a.2 t x (h1 _ hr) (h2 _ hs)
    have hru : ruD a.1 = ruleD a.1.1 a.1.2 := rfl
    rw [List.foldl_append, List.foldl_cons, List.foldl_nil]
    generalize pre.foldl (cstep t x) (true, []) = s at n1 ⊢
    obtain ⟨b, ms⟩ := s
    simp only [pat2P, pure_bind, boolD_bl, hru, hrec, pat2T]
    unfold cstep
    cases b with
    | true => simp only [if_true, pure_bind, need_lt n1, List.map_append, List.map_cons, List.map_nil]
    | false => simp only [Bool.false_eq_true, if_false, pure_bind, need_lt n1, List.map_append, List.map_cons, List.map_nil]
  · simp only [pure_bind]
    rfl
theorem chain2 (r1 r2 : Ru) (s1 s2 : Mem) (t : Int) (x : Str) : chainM [r1, r2] [s1, s2] t x = if (recG r1.1 r1.2 s1 t x).1 = true then ((recG r2.1 r2.2 s2 t x).1, [(recG r1.1 r1.2 s1 t x).2, (recG r2.1 r2.2 s2 t x).2]) else (false, [(recG r1.1 r1.2 s1 t x).2, s2]) := by
  show cstep t x (cstep t x (true, []) (r1, s1)) (r2, s2) = _
  unfold cstep
  simp only [if_true]
  rfl
theorem chain1 (r1 : Ru) (s1 : Mem) (t : Int) (x : Str) : chainM [r1] [s1] t x = ((recG r1.1 r1.2 s1 t x).1, [(recG r1.1 r1.2 s1 t x).2]) := rfl
/-- the messages that pass -/
def passed (fs : List Bool) (l : Log) : Log := ((l.zip fs).filter (·.2)).map (·.1)
def popB : List Bool → List Bool → List Bool
  | [], _ => []
  | false :: r, ys => false :: popB r ys
  | true :: r, y :: ys => y :: popB r ys
  | true :: _, [] => []
theorem popB_len : ∀ {fs ys : List Bool}, ys.length = fs.count true → (popB fs ys).length = fs.length
  | [], _, _ => rfl
  | false :: r, ys, h => by
    show (popB r ys).length + 1 = r.length + 1
    rw [popB_len (fs := r) (by simpa using h)]
  | true :: r, y :: ys, h => by
    show (popB r ys).length + 1 = r.length + 1
    rw [popB_len (fs := r) (by simpa using h)]
  | true :: r, [], h => by simp at h
theorem popB_false : ∀ {fs ys : List Bool}, ys.length = fs.count true → popB (fs ++ [false]) ys = popB fs ys ++ [false]
  | [], ys, h => by rfl
  | false :: r, ys, h => by
    show false :: popB (r ++ [false]) ys = false :: (popB r ys ++ [false])
    rw [popB_false (fs := r) (by simpa using h)]
  | true :: r, y :: ys, h => by
    show y :: popB (r ++ [false]) ys = y :: (popB r ys ++ [false])
    rw [popB_false (fs := r) (by simpa using h)]
  | true :: r, [], h => by simp at h
theorem popB_true (b : Bool) : ∀ {fs ys : List Bool}, ys.length = fs.count true → popB (fs ++ [true]) (ys ++ [b]) = popB fs ys ++ [b]
  | [], [], h => rfl
  | [], _ :: _, h => by simp at h
  | false :: r, ys, h => by
    show false :: popB (r ++ [true]) (ys ++ [b]) = false :: (popB r ys ++ [b])
    rw [popB_true b (fs := r) (by simpa using h)]
  | true :: r, y :: ys, h => by
    show y :: popB (r ++ [true]) (ys ++ [b]) = y :: (popB r ys ++ [b])
    rw [popB_true b (fs := r) (by simpa using h)]
  | true :: r, [], h => by simp at h
theorem passed_snoc {fs : List Bool} {l : Log} (h : fs.length = l.length) (b : Bool) (p : Int × Str) : passed (fs ++ [b]) (l ++ [p]) = passed fs l ++ if b then [p] else [] := by
  unfold passed
  rw [List.zip_append h.symm, List.filter_append, List.map_append]
  cases b <;> rfl
theorem passed_len : ∀ {fs : List Bool} {l : Log}, fs.length = l.length → (passed fs l).length = fs.count true
  | [], [], _ => rfl
  | b :: fs, p :: l, h => by
    have ih := passed_len (fs := fs) (l := l) (by simpa using h)
    unfold passed at ih ⊢
    cases b with
    | true => simpa using ih
    | false => simpa using ih
theorem passed_sub (fs : List Bool) (l : Log) : (passed fs l).Sublist l := by
  unfold passed
  refine List.Sublist.trans (List.Sublist.map _ List.filter_sublist) ?_
  induction l generalizing fs with
  | nil => simp
  | cons p l ih =>
    cases fs with
    | nil => simp
    | cons b fs => simpa using ih fs
def serM (r1 r2 : Ru) (l : Log) : List Bool := popB (flagsM r1.1 r1.2 l) (flagsM r2.1 r2.2 (passed (flagsM r1.1 r1.2 l) l))
def serSt (r1 r2 : Ru) (l : Log) : List Mem := [stM r1.1 r1.2 l, stM r2.1 r2.2 (passed (flagsM r1.1 r1.2 l) l)]
theorem flagsM_snoc (k : Kd) (n : Int) (l : Log) (p : Int × Str) : flagsM k n (l ++ [p]) = flagsM k n l ++ [(recG k n (stM k n l) p.1 p.2).1] := by
  unfold flagsM stM
  rw [runM_snoc]
  rfl
theorem stM_snoc (k : Kd) (n : Int) (l : Log) (p : Int × Str) : stM k n (l ++ [p]) = (recG k n (stM k n l) p.1 p.2).2 := by
  unfold stM
  rw [runM_snoc]
  rfl
theorem ser_snoc (r1 r2 : Ru) (l : Log) (p : Int × Str) : serM r1 r2 (l ++ [p]) = serM r1 r2 l ++ [(chainM [r1, r2] (serSt r1 r2 l) p.1 p.2).1] ∧ serSt r1 r2 (l ++ [p]) = (chainM [r1, r2] (serSt r1 r2 l) p.1 p.2).2 := by
  have hl : (flagsM r1.1 r1.2 l).length = l.length := flagsM_len _ _ _
  have hp := passed_len hl
  have hq : (flagsM r2.1 r2.2 (passed (flagsM r1.1 r1.2 l) l)).length = (flagsM r1.1 r1.2 l).count true := by rw [flagsM_len, hp]
  unfold serM serSt
  rw [chain2, flagsM_snoc, stM_snoc, passed_snoc hl]
  cases (recG r1.1 r1.2 (stM r1.1 r1.2 l) p.1 p.2).1 with
  | true => simp only [if_true, flagsM_snoc, stM_snoc, popB_true _ hq, and_self]
  | false => simp only [Bool.false_eq_true, if_false, List.append_nil, popB_false hq, and_self]
theorem serM_len (r1 r2 : Ru) (l : Log) : (serM r1 r2 l).length = l.length := by
  have hl : (flagsM r1.1 r1.2 l).length = l.length := flagsM_len _ _ _
  unfold serM
  rw [popB_len (by rw [flagsM_len, passed_len hl]), hl]
theorem stM_len (k : Kd) (n : Int) (l : Log) : (stM k n l).length ≤ l.length := (runM_len k n l).1
theorem serSt_len (r1 r2 : Ru) {l : Log} (h : l.length ≤ 60) : ∀ s ∈ serSt r1 r2 l, s.length ≤ 1000 := by
  have h1 := stM_len r1.1 r1.2 l
  have h2 := stM_len r2.1 r2.2 (passed (flagsM r1.1 r1.2 l) l)
  have h3 := (passed_sub (flagsM r1.1 r1.2 l) l).length_le
  intro s m
  simp only [serSt, List.mem_cons, List.not_mem_nil, or_false] at m
  rcases m with rfl | rfl <;> omega
theorem in_series_eq {r1 r2 : Ru} {l : Log} (h1 : okRule r1.1 r1.2) (h2 : okRule r2.1 r2.2) (hl : okLog l = true) : den_in_series [ruD r1, ruD r2, logD l] = pure ((serM r1 r2 l).map D.bl) := by
  show dn_in_series _ _ _ = _
  unfold dn_in_series
  have h60 := okLog_len hl
  have e1 : den_need_rule [ruD r1] = pure .non := need_rule_eq h1
  have e2 : den_need_rule [ruD r2] = pure .non := need_rule_eq h2
  simp only [pure_bind, e1, e2, need_log_eq hl, log_seq]
  have e0 : ((D.tup [c_EMPTY, c_EMPTY], ([] : List D)) : D × List D) = (.tup ((serSt r1 r2 []).map memD), (serM r1 r2 []).map D.bl) := rfl
  rw [e0]
  refine step (for_pre msgD (fun pre => ((D.tup ((serSt r1 r2 pre).map memD), (serM r1 r2 pre).map D.bl) : D × List D)) l fun pre p post e => ?_) rfl
  have hlen : pre.length + 1 ≤ 60 := by rw [e] at h60; simp at h60; omega
  have n1 : ((serM r1 r2 pre).map D.bl).length ≤ 100000 := by rw [List.length_map, serM_len]; omega
  have hc := chain_eq [r1, r2] (serSt r1 r2 pre) p.1 p.2 (fun r m => by
    simp only [List.mem_cons, List.not_mem_nil, or_false] at m
    rcases m with rfl | rfl
    · exact h1.1
    · exact h2.1) (serSt_len r1 r2 (by omega)) (by show 2 ≤ 1000; decide)
  obtain ⟨s1, s2⟩ := ser_snoc r1 r2 pre p
  simp only [List.map_cons, List.map_nil] at hc
  simp only [msg_pat, pure_bind, hc, pat2T, need_lt n1, s1, s2, List.map_append, List.map_cons, List.map_nil]
theorem popW_eq : ∀ (fs ys : List Bool), ys.length = fs.count true → popW (fs.map D.bl) (ys.map D.bl) = pure ((popB fs ys).map D.bl)
  | [], _, _ => rfl
  | false :: r, ys, h => by
    show (popW (r.map D.bl) (ys.map D.bl) >>= fun t => pure (.bl false :: t)) = _
    rw [popW_eq r ys (by simpa using h), pure_bind]
    rfl
  | true :: r, y :: ys, h => by
    show need _ (popW (r.map D.bl) (ys.map D.bl) >>= fun t => pure (.bl y :: t)) = _
    rw [popW_eq r ys (by simpa using h), pure_bind]
    exact need_of (p := (D.bl y).flat = true) rfl
  | true :: r, [], h => by simp at h
theorem passed_comp (fs : List Bool) (l : Log) {f : (Int × Str) × Bool → W (Option D)} (h : ∀ p, f p = pure (if p.2 = true then some (msgD p.1) else none)) : compT (l.zip fs) f = pure ((passed fs l).map msgD) := by
  rw [compT_filter (p := fun p => p.2) (g := fun p => msgD p.1) fun p _ => h p]
  unfold passed
  rw [List.map_map]
  rfl
def lawSer (r1 r2 : Ru) (l : Log) : List Bool := popB (lawFlags r1.1 r1.2 l) (lawFlags r2.1 r2.2 (passed (lawFlags r1.1 r1.2 l) l))
theorem past_eqL (k : Kd) (n : Int) (l : Log) (hn : 1 ≤ n) (h : l.length ≤ 1000) : den__law_past [ruleD k n, .lst (l.map msgD)] = pure ((pastG k n l).map tripD) := by
  show dn__law_past _ _ = _
  unfold dn__law_past
  simp only [pure_bind, seq_lst, bind_pure]
  refine (for_pre msgD (fun pre => (pastG k n pre).map tripD) l fun pre p post e => ?_).trans rfl
  have hl : pre.length ≤ 1000 := by rw [e] at h; simp at h; omega
  have n1 : ((pastG k n pre).map tripD).length ≤ 100000 := by rw [List.length_map, pastG_len]; omega
  have hm := memory_law_eq k n (pastG k n pre) p.1 hn (by rw [pastG_len]; exact hl)
  unfold pastD at hm
  simp only [msg_pat, pure_bind, hm, notIn_strL, flatW, D.flat, if_true, app_ok n1, pastG_snoc, pastStep, List.map_append]
  rfl
theorem flags_eqL (k : Kd) (n : Int) (l : Log) (hn : 1 ≤ n) (h : l.length ≤ 1000) : den__law_flags [ruleD k n, .lst (l.map msgD)] = pure ((lawFlags k n l).map D.bl) := by
  show dn__law_flags _ _ = _
  unfold dn__law_flags
  have n1 : ((pastG k n l).map tripD).length ≤ 100000 := by rw [List.length_map, pastG_len]; omega
  simp only [pure_bind, past_eqL k n l hn h, seq_lst, need_line n1, compW_map, trip_pat, compT_pure, filterMap_some', lawFlags, List.map_map]
  rfl
theorem law_series_eq {r1 r2 : Ru} {l : Log} (h1 : 1 ≤ r1.2) (h2 : 1 ≤ r2.2) (hl : l.length ≤ 1000) : den__law_series [ruD r1, ruD r2, logD l] = pure ((lawSer r1 r2 l).map D.bl) := by
  show dn__law_series _ _ _ = _
  unfold dn__law_series
  have e1 : den__law_flags [ruD r1, logD l] = pure ((lawFlags r1.1 r1.2 l).map D.bl) := flags_eq r1.1 r1.2 l h1 hl
  have hlen : (lawFlags r1.1 r1.2 l).length = l.length := lawFlags_len _ _ _
  have hz : zipD [logD l, .lst ((lawFlags r1.1 r1.2 l).map D.bl)] = pure ((l.zip (lawFlags r1.1 r1.2 l)).map fun p => D.pr [msgD p.1, .bl p.2]) := by
    show pure (pairL _ _) = _
    rw [pairL_map]
  have n1 : ((l.zip (lawFlags r1.1 r1.2 l)).map fun p => D.pr [msgD p.1, .bl p.2]).length ≤ 100000 := by rw [List.length_map, List.length_zip]; omega
  have hps := (passed_sub (lawFlags r1.1 r1.2 l) l).length_le
  have n2 : ((lawFlags r1.1 r1.2 l).map D.bl).length ≤ 100000 := by rw [List.length_map]; omega
  simp only [pure_bind, e1, hz, need_line n1, compW_map]
  refine step (passed_comp (lawFlags r1.1 r1.2 l) l fun p => ?_) ?_
  · simp only [pat2P, pure_bind, boolD_bl, ite_pure]
  have e2 : den__law_flags [ruD r2, .lst ((passed (lawFlags r1.1 r1.2 l) l).map msgD)] = pure ((lawFlags r2.1 r2.2 (passed (lawFlags r1.1 r1.2 l) l)).map D.bl) := flags_eqL r2.1 r2.2 _ h2 (by omega)
  simp only [e2, pure_bind, seq_lst, need_line n2]
  rw [popW_eq _ _ (by rw [lawFlags_len, passed_len hlen])]
  rfl
theorem series_law {r1 r2 : Ru} (h1 : 1 ≤ r1.2) (h2 : 1 ≤ r2.2) {l : Log} (hu : upPw l) : serM r1 r2 l = lawSer r1 r2 l := by
  unfold serM lawSer
  rw [flags_law h1 hu, flags_law h2 (List.Pairwise.sublist (passed_sub _ _) hu)]
def bothM (r1 r2 : Ru) (l : Log) : List Bool := ((flagsM r1.1 r1.2 l).zip (flagsM r2.1 r2.2 l)).map fun p => p.1 && p.2
theorem both_comm (r1 r2 : Ru) (l : Log) : bothM r2 r1 l = bothM r1 r2 l := by
  unfold bothM
  generalize flagsM r1.1 r1.2 l = fs
  generalize flagsM r2.1 r2.2 l = gs
  induction fs generalizing gs with
  | nil => cases gs <;> rfl
  | cons a fs ih =>
    cases gs with
    | nil => rfl
    | cons b gs =>
      show (b && a) :: _ = (a && b) :: _
      rw [Bool.and_comm]
      exact congrArg _ (ih gs)
theorem both_comp (fs gs : List Bool) {f : Bool × Bool → W (Option D)} (h : ∀ p, f p = pure (some (.bl (p.1 && p.2)))) : compT (fs.zip gs) f = pure (((fs.zip gs).map fun p => p.1 && p.2).map D.bl) := by
  rw [compT_map (g := fun p => D.bl (p.1 && p.2)) fun p _ => h p, List.map_map]
  rfl
theorem side_by_side_eq {r1 r2 : Ru} {l : Log} (h1 : okRule r1.1 r1.2) (h2 : okRule r2.1 r2.2) (hl : okLog l = true) : den_side_by_side [ruD r1, ruD r2, logD l] = pure ((bothM r1 r2 l).map D.bl) := by
  show dn_side_by_side _ _ _ = _
  unfold dn_side_by_side
  have h60 := okLog_len hl
  have e1 : den_need_rule [ruD r1] = pure .non := need_rule_eq h1
  have e2 : den_need_rule [ruD r2] = pure .non := need_rule_eq h2
  have e3 : den_run [ruD r1, logD l] = _ := run_eq r1.1 r1.2 l h1.1 h60
  have e4 : den_run [ruD r2, logD l] = _ := run_eq r2.1 r2.2 l h2.1 h60
  have i3 : ∀ (a b : List D) (c : D), idxD (tup3 (a, b, c)) (.int 0) = pure (.lst a) := fun a b c => rfl
  have n1 : (((flagsM r1.1 r1.2 l).zip (flagsM r2.1 r2.2 l)).map fun p => D.pr [.bl p.1, .bl p.2]).length ≤ 100000 := by rw [List.length_map, List.length_zip, flagsM_len]; omega
  simp only [pure_bind, e1, e2, e3, e4, need_log_eq hl, i3, zip_lst, pairL_map, need_line n1, compW_map]
  refine both_comp _ _ fun p => ?_
  simp only [pat2P, pure_bind, boolD_bl]
  cases p.1 <;> rfl
end DG

/-! ## PX -/
set_option Elab.async false
set_option linter.all false
set_option maxRecDepth 100000
set_option maxHeartbeats 4000000
namespace DG
open PySem PySem.Spec PyProof.Rows L2
/-! ### short logs, in order -/
def lastT (l : Log) : Int := (l.getLast?.map (·.1)).getD 0
def abc : List Str := ["a", "b", "c"]
def nxt (l : Log) : List (Int × Str) := (List.range (if l = [] then 1 else 3)).flatMap fun g => abc.map fun x => (lastT l + (g : Nat), x)
def extL (l : Log) : List Log := (nxt l).map fun p => l ++ [p]
def logsM : Nat → List Log
  | 0 => [[]]
  | n + 1 => (logsM n).flatMap extL
structure Short (n : Nat) (l : Log) : Prop where
  len : l.length = n
  tk : ∀ p ∈ l, 0 ≤ p.1 ∧ p.1 ≤ 2 * (n : Int)
  nm : ∀ p ∈ l, p.2 ∈ abc
  up : upPw l
theorem last_cases (l : Log) : (l = [] ∧ lastT l = 0) ∨ ∃ q ∈ l, lastT l = q.1 ∧ l.getLast? = some q := by
  rcases List.eq_nil_or_concat l with rfl | ⟨m, q, rfl⟩
  · exact .inl ⟨rfl, rfl⟩
  · refine .inr ⟨q, by rw [List.concat_eq_append]; simp, ?_, by rw [List.concat_eq_append]; simp⟩
    unfold lastT
    rw [List.concat_eq_append, List.getLast?_concat]
    rfl
theorem up_last {l : Log} (h : upPw l) {q : Int × Str} (hq : l.getLast? = some q) : ∀ p ∈ l, p.1 ≤ q.1 := fun p hp => by
  rcases List.eq_nil_or_concat l with rfl | ⟨m, r, rfl⟩
  · cases hp
  · rw [List.concat_eq_append] at hq hp h
    rw [List.getLast?_concat] at hq
    cases hq
    rcases List.mem_append.mp hp with z | z
    · exact (List.pairwise_append.mp h).2.2 p z q (List.mem_singleton.mpr rfl)
    · rw [List.mem_singleton.mp z]
      exact Int.le_refl _
theorem nxt_mem {l : Log} {p : Int × Str} (h : p ∈ nxt l) : p.2 ∈ abc ∧ lastT l ≤ p.1 ∧ p.1 ≤ lastT l + 2 ∧ (l = [] → p.1 = lastT l) := by
  unfold nxt at h
  obtain ⟨g, hg, hp⟩ := List.mem_flatMap.mp h
  obtain ⟨x, hx, rfl⟩ := List.mem_map.mp hp
  have hg := List.mem_range.mp hg
  refine ⟨hx, ?_, ?_, fun z => ?_⟩
  · show lastT l ≤ lastT l + (g : Int)
    omega
  · show lastT l + (g : Int) ≤ lastT l + 2
    split at hg <;> omega
  · show lastT l + (g : Int) = lastT l
    rw [if_pos z] at hg
    omega
theorem Short.snoc {n : Nat} {l : Log} (h : Short n l) {p : Int × Str} (hp : p ∈ nxt l) : Short (n + 1) (l ++ [p]) := by
  obtain ⟨a, b, c, d⟩ := nxt_mem hp
  have hl : 0 ≤ lastT l ∧ lastT l ≤ 2 * (n : Int) ∧ ∀ q ∈ l, q.1 ≤ lastT l := by
    rcases last_cases l with ⟨e1, e2⟩ | ⟨q, hq, e1, e2⟩
    · refine ⟨by omega, by omega, fun q hq => ?_⟩
      rw [e1] at hq
      cases hq
    · have := h.tk q hq
      exact ⟨by omega, by omega, fun r hr => by rw [e1]; exact up_last h.up e2 r hr⟩
  refine ⟨by rw [List.length_append, h.len]; rfl, fun q hq => ?_, fun q hq => ?_, ?_⟩
  · rcases List.mem_append.mp hq with z | z
    · have := h.tk q z
      omega
    · rw [List.mem_singleton.mp z]
      omega
  · rcases List.mem_append.mp hq with z | z
    · exact h.nm q z
    · rw [List.mem_singleton.mp z]
      exact a
  · unfold upPw
    rw [List.pairwise_append]
    refine ⟨h.up, List.pairwise_singleton _ _, fun q hq r hr => ?_⟩
    rw [List.mem_singleton.mp hr]
    exact Int.le_trans (hl.2.2 q hq) b
theorem logs_short : ∀ {n : Nat} {l : Log}, l ∈ logsM n → Short n l
  | 0, l, h => by
    rw [List.mem_singleton.mp h]
    exact ⟨rfl, fun _ m => (by cases m), fun _ m => (by cases m), List.Pairwise.nil⟩
  | n + 1, l, h => by
    obtain ⟨m, hm, hl⟩ := List.mem_flatMap.mp h
    obtain ⟨p, hp, rfl⟩ := List.mem_map.mp hl
    exact (logs_short hm).snoc hp
theorem abc_ok : ∀ x ∈ abc, okName x = true := by
  intro x hx
  simp only [abc, List.mem_cons, List.not_mem_nil, or_false] at hx
  rcases hx with rfl | rfl | rfl <;> decide +kernel
theorem Short.ok {n : Nat} {l : Log} (h : Short n l) (hn : n ≤ 20) : okLog l = true := okLog_of (by rw [h.len]; omega) (fun p hp => by have := h.tk p hp; omega) (fun p hp => abc_ok _ (h.nm p hp)) h.up
theorem flat_len {A B : Type} (f : A → List B) (k : Nat) : ∀ as : List A, (∀ a ∈ as, (f a).length ≤ k) → (as.flatMap f).length ≤ k * as.length
  | [], _ => Nat.zero_le _
  | a :: as, h => by
    rw [List.flatMap_cons, List.length_append, List.length_cons, Nat.mul_succ]
    have h1 := h a List.mem_cons_self
    have h2 := flat_len f k as fun b hb => h b (List.mem_cons_of_mem _ hb)
    omega
theorem nxt_len (l : Log) : (nxt l).length ≤ 9 := by
  unfold nxt
  have h1 := flat_len (fun g : Nat => abc.map fun x => (lastT l + (g : Int), x)) 3 (List.range (if l = [] then 1 else 3)) fun a _ => by rw [List.length_map]; exact Nat.le_refl _
  rw [List.length_range] at h1
  have h2 : (if l = [] then (1 : Nat) else 3) ≤ 3 := by split <;> decide
  exact Nat.le_trans h1 (Nat.mul_le_mul_left 3 h2)
theorem ext_len (l : Log) : (extL l).length ≤ 9 := by
  unfold extL
  rw [List.length_map]
  exact nxt_len l
theorem logs_len : ∀ n, (logsM n).length ≤ 9 ^ n
  | 0 => Nat.le_refl _
  | n + 1 => by
    have h1 := flat_len extL 9 (logsM n) fun a _ => ext_len a
    have h2 := logs_len n
    show ((logsM n).flatMap extL).length ≤ 9 ^ n * 9
    have h3 : 9 * (logsM n).length ≤ 9 * 9 ^ n := Nat.mul_le_mul_left 9 h2
    omega
theorem logs_len' {n : Nat} (h : n ≤ 5) : (logsM n).length ≤ 59049 := Nat.le_trans (logs_len n) (Nat.le_trans (Nat.pow_le_pow_right (by decide) h) (by decide))
/-! ### lists of one or two gates -/
structure GL (rs : List Ru) : Prop where
  len : rs.length = 1 ∨ rs.length = 2
  ok : ∀ r ∈ rs, okRule r.1 r.2 ∧ r.2 ≤ 6
def glD (rs : List Ru) : D := .tup (rs.map ruD)
theorem GL.cases {rs : List Ru} (h : GL rs) : (∃ r, rs = [r]) ∨ ∃ r1 r2, rs = [r1, r2] := by
  rcases h.len with e | e
  · exact .inl (List.length_eq_one_iff.mp e)
  · match rs, e with
    | [r1, r2], _ => exact .inr ⟨r1, r2, rfl⟩
def stR (rs : List Ru) (l : Log) : List Mem := match rs with
  | [r] => [stM r.1 r.2 l]
  | [r1, r2] => serSt r1 r2 l
  | _ => []
def flR (rs : List Ru) (l : Log) : List Bool := match rs with
  | [r] => flagsM r.1 r.2 l
  | [r1, r2] => serM r1 r2 l
  | _ => []
def acc (rs : List Ru) (l : Log) (p : Int × Str) : Bool := (chainM rs (stR rs l) p.1 p.2).1
theorem GL.snoc {rs : List Ru} (h : GL rs) (l : Log) (p : Int × Str) : flR rs (l ++ [p]) = flR rs l ++ [acc rs l p] ∧ stR rs (l ++ [p]) = (chainM rs (stR rs l) p.1 p.2).2 := by
  rcases h.cases with ⟨r, rfl⟩ | ⟨r1, r2, rfl⟩
  · refine ⟨flagsM_snoc _ _ _ _, ?_⟩
    show [stM r.1 r.2 (l ++ [p])] = _
    rw [stM_snoc]
    rfl
  · exact ser_snoc r1 r2 l p
def stD (rs : List Ru) (l : Log) : D := if l = [] ∧ rs.length = 2 then .pr ((stR rs l).map memD) else .tup ((stR rs l).map memD)
theorem st_len {rs : List Ru} (h : GL rs) {l : Log} (hl : l.length ≤ 60) : ∀ s ∈ stR rs l, s.length ≤ 1000 := by
  rcases h.cases with ⟨r, rfl⟩ | ⟨r1, r2, rfl⟩
  · intro s hs
    rw [List.mem_singleton.mp hs]
    have := stM_len r.1 r.2 l
    omega
  · exact serSt_len r1 r2 hl
theorem chain_D {rs : List Ru} (h : GL rs) {l : Log} (hl : l.length ≤ 60) (p : Int × Str) : den_chain_received [glD rs, stD rs l, .int p.1, .str p.2] = pure (.tup [.bl (acc rs l p), stD rs (l ++ [p])]) := by
  have e1 : stD rs (l ++ [p]) = .tup ((chainM rs (stR rs l) p.1 p.2).2.map memD) := by
    unfold stD
    rw [if_neg (by intro z; simp at z), (h.snoc l p).2]
  rw [e1]
  have h3 : rs.length ≤ 1000 := by rcases h.len with e | e <;> omega
  unfold stD glD
  split
  · exact chain_eqP rs _ _ _ (fun r hr => (h.ok r hr).1.1) (st_len h hl) h3
  · exact chain_eq rs _ _ _ (fun r hr => (h.ok r hr).1.1) (st_len h hl) h3
/-! ### searches -/
theorem forX_find' {A : Type} {e : A → D} {f : D → Unit → W (Out Unit)} {bad : A → Option D} : ∀ as : List A, (∀ a ∈ as, f (e a) () = pure (match bad a with | some d => Out.rt d | none => .nx ())) → forX (as.map e) () f = pure (match as.findSome? bad with | some d => Out.rt d | none => .nx ())
  | [], _ => rfl
  | a :: as, h => by
    show (f (e a) () >>= fun x => out2W (fun s' => forX (as.map e) s' f) x) = _
    rw [h a List.mem_cons_self, List.findSome?_cons]
    cases bad a with
    | some d => rfl
    | none => exact forX_find' as fun b hb => h b (List.mem_cons_of_mem _ hb)
theorem forX_search {A : Type} {e : A → D} {f : D → List D → W (Out (List D))} {bad : A → Option D} {g : A → List D} {B : Nat} : ∀ (as : List A) (S : List D), (∀ a ∈ as, ∀ S : List D, S.length + (g a).length ≤ B → f (e a) S = pure (match bad a with | some d => Out.rt d | none => .nx (S ++ g a))) → S.length + (as.flatMap g).length ≤ B →
    forX (as.map e) S f = pure (match as.findSome? bad with | some d => Out.rt d | none => .nx (S ++ as.flatMap g))
  | [], S, _, _ => by
    rw [List.flatMap_nil, List.append_nil]
    rfl
  | a :: as, S, h, hB => by
    rw [List.flatMap_cons, List.length_append] at hB
    show (f (e a) S >>= fun x => out2W (fun s' => forX (as.map e) s' f) x) = _
    rw [h a List.mem_cons_self S (by omega), List.findSome?_cons]
    cases bad a with
    | some d => rfl
    | none =>
      rw [List.flatMap_cons, ← List.append_assoc]
      exact forX_search as (S ++ g a) (fun b hb => h b (List.mem_cons_of_mem _ hb)) (by rw [List.length_append]; omega)
theorem forX_range {f : D → D → W (Out D)} {G : Nat → D} {bad : Nat → Option D} : ∀ (n s : Nat), (∀ t, s ≤ t → t < s + n → f (.int t) (G t) = pure (match bad t with | some d => Out.rt d | none => .nx (G (t + 1)))) → forX ((List.range' s n).map fun i : Nat => D.int i) (G s) f = pure (match (List.range' s n).findSome? bad with | some d => Out.rt d | none => .nx (G (s + n)))
  | 0, s, _ => rfl
  | n + 1, s, h => by
    rw [List.range'_succ, List.map_cons, List.findSome?_cons]
    show (f (.int s) (G s) >>= fun x => out2W (fun s' => forX ((List.range' (s + 1) n).map fun i : Nat => D.int i) s' f) x) = _
    rw [h s (Nat.le_refl _) (by omega)]
    cases bad s with
    | some d => rfl
    | none =>
      have := forX_range (f := f) (G := G) (bad := bad) n (s + 1) fun t h1 h2 => h t (by omega) (by omega)
      rw [show s + 1 + n = s + (n + 1) by omega] at this
      exact this
theorem find_flat {A B : Type} (f : A → List B) {C : Type} (g : B → Option C) : ∀ as : List A, (as.flatMap f).findSome? g = as.findSome? fun a => (f a).findSome? g
  | [] => rfl
  | a :: as => by
    rw [List.flatMap_cons, List.findSome?_append, List.findSome?_cons, find_flat f g as]
    cases (f a).findSome? g <;> rfl
/-! ### the search -/
def dif (one other : List Ru) (l : Log) (p : Int × Str) : Bool := acc one l p != acc other l p
def stepO (one other : List Ru) (l : Log) : Option D := (nxt l).findSome? fun p => if dif one other l p = true then some (logD (l ++ [p])) else none
def levO (one other : List Ru) (t : Nat) : Option D := (logsM t).findSome? (stepO one other)
def tellO (one other : List Ru) (n : Nat) : Option D := (List.range' 0 n).findSome? (levO one other)
def tellD (one other : List Ru) (n : Nat) : D := (tellO one other n).getD .non
def trip3 (one other : List Ru) (l : Log) : D := .tup [logD l, stD one l, stD other l]
theorem log_snocD {l : Log} {p : Int × Str} (h : l.length ≤ 1000) : addD (logD l) (.tup [.tup [.int p.1, .str p.2]]) = pure (logD (l ++ [p])) := by
  refine (need_of ?_).trans ?_
  · rw [List.length_map]
    show l.length + 1 ≤ 1000000
    omega
  · unfold logD
    rw [List.map_append]
    rfl
theorem add_lst' {a b : List D} (h : a.length + b.length ≤ 1000000) : addD (.lst a) (.lst b) = pure (.lst (a ++ b)) := need_of h
theorem next_messages_eq {n : Nat} {l : Log} (h : Short n l) (hn : n ≤ 20) : den_next_messages [logD l] = pure (.lst ((nxt l).map msgD)) := by
  show dn_next_messages _ = _
  unfold dn_next_messages
  have ok := h.ok hn
  simp only [pure_bind, eq_log_nil ok, boolD_bl]
  by_cases hl : l = []
  · subst hl
    have hs : seqD c_NAMES = pure [.str "a", .str "b", .str "c"] := rfl
    have n3 : ([.str "a", .str "b", .str "c"] : List D).length ≤ line := by decide
    simp only [List.isEmpty_nil, if_true, hs, pure_bind, need_of n3]
    rfl
  · have hne : l.isEmpty = false := by cases l with | nil => exact absurd rfl hl | cons a b => rfl
    rcases last_cases l with ⟨e1, _⟩ | ⟨q, hq, e1, e2⟩
    · exact absurd e1 hl
    · have hr : rng1D [.int 3] = pure ((List.range 3).map fun i : Nat => D.int i) := rng1_nat (by decide)
      simp only [hne, Bool.false_eq_true, if_false, neg_int, log_last e2, pure_bind, msg_0, hr, bind_pure]
      have hnx : nxt l = (List.range 3).flatMap fun g : Nat => abc.map fun x => (q.1 + (g : Int), x) := by
        unfold nxt
        rw [if_neg hl, e1]
      rw [hnx]
      refine (for_pre (fun i : Nat => D.int i) (fun pre => D.lst ((pre.flatMap fun g : Nat => abc.map fun x => (q.1 + (g : Int), x)).map msgD)) (List.range 3) fun pre g post e => ?_)
      have hlen : pre.length ≤ 3 := by
        have := congrArg List.length e
        rw [List.length_range, List.length_append] at this
        omega
      have hfl := flat_len (fun g : Nat => abc.map fun x => (q.1 + (g : Int), x)) 3 pre fun a _ => by rw [List.length_map]; exact Nat.le_refl _
      have hc : compW [.str "a", .str "b", .str "c"] (fun d48 => (do
          let x49 ← (do
            let x47 ← (do
              let x45 ← addD (.int q.1) (.int g)
              pure [x45, d48])
            pure (D.tup x47))
          pure (some x49) : W (Option D))) = pure ((abc.map fun x => (q.1 + (g : Int), x)).map msgD) := rfl
      have hs : seqD c_NAMES = pure [.str "a", .str "b", .str "c"] := rfl
      have n3 : ([.str "a", .str "b", .str "c"] : List D).length ≤ line := by decide
      have ad : addD (.lst ((pre.flatMap fun g : Nat => abc.map fun x => (q.1 + (g : Int), x)).map msgD)) (.lst ((abc.map fun x => (q.1 + (g : Int), x)).map msgD)) = pure (.lst (((pre ++ [g]).flatMap fun g : Nat => abc.map fun x => (q.1 + (g : Int), x)).map msgD)) := by
        refine (add_lst' ?_).trans ?_
        · rw [List.length_map, List.length_map, List.length_map]
          show _ + 3 ≤ _
          omega
        · rw [List.flatMap_append, List.map_append]
          rfl
      simp only [pure_bind, hs, need_of n3, hc, ad]
end DG

/-! ## PX2 -/
set_option Elab.async false
set_option linter.all false
set_option maxRecDepth 100000
set_option maxHeartbeats 1000000
namespace DG
open PySem PySem.Spec PyProof.Rows L2
theorem is_gates_eq {rs : List Ru} (h : GL rs) : den_is_gate_list [glD rs] = pure (.bl true) := by
  show dn_is_gate_list _ = _
  unfold dn_is_gate_list glD
  have e1 : isiTD (.tup (rs.map ruD)) "tuple" = pure (.bl true) := by
    show isiD (.tup (rs.map ruD)) "tuple" = _
    exact isi_tup_tuple _
  have e2 : lenTD [.tup (rs.map ruD)] = pure (.int (rs.length : Nat)) := by
    show lenD [.tup (rs.map ruD)] = _
    rw [len_tup, List.length_map]
  have e3 : notInD (.int (rs.length : Nat)) (.tup [.int 1, .int 2]) = pure (.bl false) := by
    refine (notIn_intT _ [1, 2]).trans ?_
    rcases h.len with e | e <;> rw [e] <;> rfl
  have hl : (rs.map ruD).length ≤ 100000 := by
    rw [List.length_map]
    rcases h.len with e | e <;> omega
  have e4 : compW (rs.map ruD) (fun d22 => (do let x23 ← den_is_rule [d22]; pure (some x23) : W (Option D))) = pure (rs.map fun r : Ru => D.bl (decide (1 ≤ r.2 ∧ r.2 ≤ r.1.most))) := by
    rw [compW_map]
    refine compT_map fun r hr => ?_
    have : den_is_rule [ruD r] = pure (.bl (decide (1 ≤ r.2 ∧ r.2 ≤ r.1.most))) := is_rule_eq r.1 r.2
    simp only [this, pure_bind]
  have e5 : compW (rs.map ruD) (fun d42 => (do let x43 ← (do let x40 ← idxD d42 (.int 1); leD x40 (.int 6)); pure (some x43) : W (Option D))) = pure (rs.map fun r : Ru => D.bl (decide (r.2 ≤ 6))) := by
    rw [compW_map]
    refine compT_map fun r hr => ?_
    have : idxD (ruD r) (.int 1) = pure (.int r.2) := rfl
    simp only [this, pure_bind, le_int]
  have a1 : (rs.all fun r : Ru => decide (1 ≤ r.2 ∧ r.2 ≤ r.1.most)) = true := List.all_eq_true.mpr fun r hr => decide_eq_true (h.ok r hr).1
  have a2 : (rs.all fun r : Ru => decide (r.2 ≤ 6)) = true := List.all_eq_true.mpr fun r hr => decide_eq_true (h.ok r hr).2
  simp only [pure_bind, e1, e2, e3, boolD_bl, Bool.not_true, Bool.false_eq_true, if_false, seq_tup, need_line hl, e4, e5, all_bl, a1, a2]
theorem mul_st {rs : List Ru} (h : GL rs) : mulTD (.tup [c_EMPTY]) (.int (rs.length : Nat)) = pure (stD rs []) := by
  rcases h.cases with ⟨r, rfl⟩ | ⟨r1, r2, rfl⟩
  · rfl
  · show need _ _ = _
    rw [need_of]
    · rfl
    · exact ⟨by simp, (show (2 : Int) ≤ 2 by decide), (show (2 : Int) ≤ 1000 by decide), by decide⟩
theorem flat_map1 {A B : Type} (f : A → B) : ∀ as : List A, (as.flatMap fun a => [f a]) = as.map f
  | [] => rfl
  | a :: as => by rw [List.flatMap_cons, flat_map1 f as]; rfl
theorem map_flat {A B C : Type} (f : A → List B) (g : B → C) : ∀ as : List A, (as.flatMap f).map g = as.flatMap fun a => (f a).map g
  | [] => rfl
  | a :: as => by rw [List.flatMap_cons, List.flatMap_cons, List.map_append, map_flat f g as]
theorem telling_eq {one other : List Ru} (h1 : GL one) (h2 : GL other) {n : Nat} (hn1 : 1 ≤ n) (hn : n ≤ 5) : den_telling_log [glD one, glD other, .int n] = pure (tellD one other n) := by
  show dn_telling_log _ _ _ = _
  unfold dn_telling_log
  have e1 : den_is_integer [.int (n : Nat), .int 1, .int 5] = pure (.bl true) := by rw [is_integer_eq, decide_eq_true ⟨by omega, by omega⟩]
  have e2 : ∀ rs : List Ru, lenD [glD rs] = pure (.int (rs.length : Nat)) := fun rs => by
    show lenD [.tup _] = _
    rw [len_tup, List.length_map]
  have hr : rng1D [.int (n : Nat)] = pure ((List.range' 0 n).map fun i : Nat => D.int i) := by
    rw [rng1_nat (show n ≤ 1000000000 by omega), List.range_eq_range']
  simp only [pure_bind, is_gates_eq h1, is_gates_eq h2, boolD_bl, Bool.not_true, Bool.false_eq_true, if_false, e1, e2, mul_st h1, mul_st h2, hr]
  refine step (forX_range (G := fun t => D.lst ((logsM t).map (trip3 one other))) (bad := levO one other) n 0 fun t _ ht => ?_) ?_
  · rw [Nat.zero_add] at ht
    simp only [pure_bind, seq_lst]
    refine step (forX_search (e := trip3 one other) (bad := stepO one other) (g := fun l => (extL l).map (trip3 one other)) (B := 100000) (logsM t) [] (fun l hl S hS => ?_) ?_) ?_
    · have hs := logs_short hl
      have hl60 : l.length ≤ 60 := by rw [hs.len]; omega
      have hp3 : patTup 3 (patCons pure (patCons pure (patOne pure))) (trip3 one other l) = pure (logD l, stD one l, stD other l) := rfl
      simp only [hp3, pure_bind, next_messages_eq hs (by omega), seq_lst]
      refine step (forX_search (e := msgD) (bad := fun p => if dif one other l p = true then some (logD (l ++ [p])) else none) (g := fun p => [trip3 one other (l ++ [p])]) (B := 100000) (nxt l) S (fun p hp S hS => ?_) ?_) ?_
      · have hlt : S.length < line := by
          show S.length < 1000000
          rw [List.length_singleton] at hS
          omega
        have c1 := chain_D h1 hl60 p
        have c2 := chain_D h2 hl60 p
        have sn := log_snocD (l := l) (p := p) (by omega)
        have p2 : ∀ a b : D, patTup 2 (patCons pure (patOne pure)) (D.tup [a, b]) = pure (a, b) := fun _ _ => rfl
        simp only [msg_pat, pure_bind, c1, c2, p2, ne_bl, boolD_bl, sn, need_of hlt]
        unfold dif
        cases acc one l p <;> cases acc other l p <;> rfl
      · rw [flat_map1, List.length_map]
        unfold extL at hS
        rw [List.length_map, List.length_map] at hS
        exact hS
      · rw [flat_map1]
        have hx : (extL l).map (trip3 one other) = (nxt l).map fun p => trip3 one other (l ++ [p]) := by
          unfold extL
          rw [List.map_map]
          rfl
        rw [hx]
        unfold stepO
        cases (nxt l).findSome? fun p => if dif one other l p = true then some (logD (l ++ [p])) else none <;> rfl
    · have b1 := flat_len (fun l => (extL l).map (trip3 one other)) 9 (logsM t) fun a _ => by rw [List.length_map]; exact ext_len a
      have b2 : (logsM t).length ≤ 6561 := Nat.le_trans (logs_len t) (Nat.le_trans (Nat.pow_le_pow_right (by decide) (show t ≤ 4 by omega)) (by decide))
      rw [List.length_nil]
      omega
    · have e : (logsM (t + 1)).map (trip3 one other) = (logsM t).flatMap fun l => (extL l).map (trip3 one other) := map_flat _ _ _
      rw [e]
      unfold levO
      cases (logsM t).findSome? (stepO one other) <;> rfl
  · unfold tellD tellO
    cases (List.range' 0 n).findSome? (levO one other) <;> rfl
/-! ### the law's reading -/
def gapL (l : Log) (g : Nat) : List Log := abc.map fun x => l ++ [(lastT l + (g : Int), x)]
theorem law_logs_eq {n : Nat} (hn : n ≤ 5) : den__law_logs [.int n] = pure (.lst ((logsM n).map logD)) := by
  show dn__law_logs _ = _
  unfold dn__law_logs
  simp only [pure_bind, rng1_nat (show n ≤ 1000000000 by omega), bind_pure]
  refine (for_pre (fun i : Nat => D.int i) (fun pre => D.lst ((logsM pre.length).map logD)) (List.range n) fun pre i post e => ?_).trans (by rw [List.length_range])
  have ht : pre.length < n := by
    have := congrArg List.length e
    rw [List.length_range, List.length_append, List.length_cons] at this
    omega
  rw [show (pre ++ [i]).length = pre.length + 1 by simp]
  generalize pre.length = t at ht
  simp only [pure_bind, seq_lst, bind_pure]
  refine (for_pre logD (fun pre => D.lst ((pre.flatMap extL).map logD)) (logsM t) fun pre l post e => ?_)
  have hl : l ∈ logsM t := by rw [e]; simp
  have hpre : pre.length ≤ 6561 := by
    have b1 : (logsM t).length ≤ 6561 := Nat.le_trans (logs_len t) (Nat.le_trans (Nat.pow_le_pow_right (by decide) (show t ≤ 4 by omega)) (by decide))
    have := congrArg List.length e
    rw [List.length_append] at this
    omega
  have hs := logs_short hl
  have ok := hs.ok (by omega)
  have hfl := flat_len extL 9 pre fun a _ => ext_len a
  obtain ⟨c, hc⟩ : ∃ c : Nat, (if l = [] then 1 else 3) = c := ⟨_, rfl⟩
  have hc3 : c ≤ 3 := by rw [← hc]; split <;> decide
  have hcW : (if (!l.isEmpty) = true then pure (.int 3) else pure (.int 1) : W D) = pure (.int (c : Nat)) := by
    rw [← hc]
    cases l with
    | nil => rfl
    | cons a b => rfl
  simp only [pure_bind, ne_log_nil ok, boolD_bl, hcW, rng1_nat (show c ≤ 1000000000 by omega), bind_pure]
  have g0 : (pre.flatMap extL).map logD = (pre.flatMap extL ++ ([] : List Nat).flatMap (gapL l)).map logD := by rw [List.flatMap_nil, List.append_nil]
  rw [g0]
  refine (for_pre (fun g : Nat => D.int g) (fun pre2 => D.lst ((pre.flatMap extL ++ pre2.flatMap (gapL l)).map logD)) (List.range c) fun pre2 g post2 e2 => ?_).trans ?_
  · have hg : g < c := by
      have : g ∈ List.range c := by rw [e2]; simp
      exact List.mem_range.mp this
    have hp2 : pre2.length ≤ 3 := by
      have := congrArg List.length e2
      rw [List.length_range, List.length_append] at this
      omega
    have hf2 := flat_len (gapL l) 3 pre2 fun a _ => by unfold gapL; rw [List.length_map]; exact Nat.le_refl _
    have htick : (if (!l.isEmpty) = true then (do
        let x46 ← (do
          let x44 ← idxD (logD l) (.int (-1))
          idxD x44 (.int 0))
        addD x46 (.int g)) else pure (.int 0) : W D) = pure (.int (lastT l + (g : Int))) := by
      rcases last_cases l with ⟨e1, e3⟩ | ⟨q, hq, e1, e3⟩
      · subst e1
        rw [if_pos rfl] at hc
        rw [e3, show g = 0 by omega]
        rfl
      · have hne : l.isEmpty = false := by cases l with | nil => cases hq | cons a b => rfl
        rw [hne, if_pos (by decide)]
        simp only [log_last e3, pure_bind, msg_0, add_int, e1]
    have sn : ∀ x : Str, addD (logD l) (.tup [.tup [.int (lastT l + (g : Int)), .str x]]) = pure (logD (l ++ [(lastT l + (g : Int), x)])) := fun x => log_snocD (l := l) (p := (lastT l + (g : Int), x)) (by rw [hs.len]; omega)
    have ad : addD (.lst ((pre.flatMap extL ++ pre2.flatMap (gapL l)).map logD)) (.lst [logD (l ++ [(lastT l + (g : Int), ("a" : Str))]), logD (l ++ [(lastT l + (g : Int), ("b" : Str))]), logD (l ++ [(lastT l + (g : Int), ("c" : Str))])]) =
        pure (.lst ((pre.flatMap extL ++ (pre2 ++ [g]).flatMap (gapL l)).map logD)) := by
      refine (add_lst' ?_).trans ?_
      · rw [List.length_map, List.length_append]
        show _ + 3 ≤ _
        omega
      · rw [List.flatMap_append, ← List.append_assoc]
        simp only [List.map_append]
        rfl
    simp only [pure_bind, ne_log_nil ok, boolD_bl, neg_int, htick, sn, ad]
  · have : extL l = (List.range c).flatMap (gapL l) := by
      unfold extL nxt
      rw [hc, map_flat]
      refine congrArg (fun f => List.flatMap f (List.range c)) (funext fun g => ?_)
      rw [List.map_map]
      rfl
    rw [← this, List.flatMap_append]
    simp only [List.flatMap_cons, List.flatMap_nil, List.append_nil]
theorem list_flags_eq {rs : List Ru} (h : GL rs) {l : Log} (hl : okLog l = true) : den__law_list_flags [glD rs, logD l] = pure (.lst ((flR rs l).map D.bl)) := by
  show dn__law_list_flags _ _ = _
  unfold dn__law_list_flags
  have h60 := okLog_len hl
  rcases h.cases with ⟨r, rfl⟩ | ⟨r1, r2, rfl⟩
  · have e1 : lenD [glD [r]] = pure (.int 1) := rfl
    have e2 : idxD (glD [r]) (.int 0) = pure (ruD r) := rfl
    have hr := (h.ok r List.mem_cons_self).1
    have e3 : den__law_flags [ruD r, logD l] = pure ((lawFlags r.1 r.2 l).map D.bl) := flags_eq r.1 r.2 l hr.1 (by omega)
    simp only [pure_bind, e1, eq_int, decide_true, boolD_bl, if_true, e2, e3]
    rw [← flags_law hr.1 (okLog_up hl)]
    rfl
  · have e1 : lenD [glD [r1, r2]] = pure (.int 2) := rfl
    have e2 : idxD (glD [r1, r2]) (.int 0) = pure (ruD r1) := rfl
    have e3 : idxD (glD [r1, r2]) (.int 1) = pure (ruD r2) := rfl
    have hr1 := (h.ok r1 List.mem_cons_self).1
    have hr2 := (h.ok r2 (List.mem_cons_of_mem _ List.mem_cons_self)).1
    have e4 := law_series_eq (r1 := r1) (r2 := r2) (l := l) hr1.1 hr2.1 (by omega)
    simp only [pure_bind, e1, eq_int, show decide ((2 : Int) = 1) = false by decide, boolD_bl, Bool.false_eq_true, if_false, e2, e3, e4]
    rw [← series_law hr1.1 hr2.1 (okLog_up hl)]
    rfl
def lastB (rs : List Ru) (l : Log) : Bool := (flR rs l).getLast?.getD false
def badL (one other : List Ru) (l : Log) : Option D := if (lastB one l != lastB other l) = true then some (logD l) else none
theorem lastB_snoc {rs : List Ru} (h : GL rs) (l : Log) (p : Int × Str) : lastB rs (l ++ [p]) = acc rs l p := by
  unfold lastB
  rw [(h.snoc l p).1, List.getLast?_concat]
  rfl
theorem idx_lastB {rs : List Ru} (h : GL rs) {l : Log} (hl : l ≠ []) : idxD (.lst ((flR rs l).map D.bl)) (.int (-1)) = pure (.bl (lastB rs l)) := by
  rcases List.eq_nil_or_concat l with e | ⟨m, p, e⟩
  · exact absurd e hl
  · rw [List.concat_eq_append] at e
    subst e
    rw [lastB_snoc h]
    refine idxL_last ?_
    rw [(h.snoc m p).1, List.map_append, List.map_cons, List.map_nil, List.getLast?_concat]
theorem law_telling_eq {one other : List Ru} (h1 : GL one) (h2 : GL other) {n : Nat} (hn : n ≤ 4) : den__law_telling [glD one, glD other, .int n] = pure (tellD one other n) := by
  show dn__law_telling _ _ _ = _
  unfold dn__law_telling
  have hr : rng2D [.int 1, .int ((n : Int) + 1)] = pure ((List.range' 0 n).map fun t : Nat => D.int (1 + (t : Int))) := by
    refine (need_of ?_).trans ?_
    · omega
    · rw [show ((n : Int) + 1 - 1).toNat = n by omega]
      unfold rngL
      rw [List.range_eq_range']
  simp only [pure_bind, add_int, hr]
  refine step (forX_find' (e := fun t : Nat => D.int (1 + (t : Int))) (bad := levO one other) (List.range' 0 n) fun t ht => ?_) ?_
  · have ht := List.mem_range'.mp ht
    obtain ⟨i, hi, rfl⟩ := ht
    have hi' : 0 + 1 * i ≤ 3 := by omega
    generalize 0 + 1 * i = t at hi'
    have hlg := law_logs_eq (n := t + 1) (by omega)
    rw [show (((t + 1 : Nat)) : Int) = 1 + (t : Int) by omega] at hlg
    simp only [pure_bind, hlg, seq_lst]
    refine step (forX_find' (e := logD) (bad := badL one other) (logsM (t + 1)) fun l hl => ?_) ?_
    · have hs := logs_short hl
      have ok := hs.ok (by omega)
      have hne : l ≠ [] := fun z => by
        have := hs.len
        rw [z] at this
        cases this
      simp only [pure_bind, list_flags_eq h1 ok, list_flags_eq h2 ok, neg_int, idx_lastB h1 hne, idx_lastB h2 hne, ne_bl, boolD_bl]
      unfold badL
      cases lastB one l <;> cases lastB other l <;> rfl
    · have e : (logsM (t + 1)).findSome? (badL one other) = levO one other t := by
        show ((logsM t).flatMap extL).findSome? (badL one other) = _
        rw [find_flat]
        unfold levO
        refine congrArg (fun f => List.findSome? f (logsM t)) (funext fun l => ?_)
        unfold extL stepO
        rw [List.findSome?_map]
        refine congrArg (fun f => List.findSome? f (nxt l)) (funext fun p => ?_)
        show badL one other (l ++ [p]) = _
        unfold badL dif
        rw [lastB_snoc h1, lastB_snoc h2]
      rw [e]
      cases levO one other t <;> rfl
  · unfold tellD tellO
    cases (List.range' 0 n).findSome? (levO one other) <;> rfl
theorem tell_comm (one other : List Ru) (n : Nat) : tellD other one n = tellD one other n := by
  unfold tellD tellO levO stepO dif
  simp only [bne_comm]
theorem tell_self (one : List Ru) (n : Nat) : tellD one one n = .non := by
  have h : tellO one one n = none := by
    unfold tellO
    rw [List.findSome?_eq_none_iff]
    intro t _
    unfold levO
    rw [List.findSome?_eq_none_iff]
    intro l _
    unfold stepO
    rw [List.findSome?_eq_none_iff]
    intro p _
    unfold dif
    simp
  unfold tellD
  rw [h]
  rfl
theorem tell_cases (one other : List Ru) {n : Nat} (hn : n ≤ 5) : tellD one other n = .non ∨ ∃ l : Log, tellD one other n = logD l ∧ okLog l = true := by
  unfold tellD
  cases h : tellO one other n with
  | none => exact .inl rfl
  | some d =>
    refine .inr ?_
    unfold tellO at h
    obtain ⟨t, ht, h⟩ := List.exists_of_findSome?_eq_some h
    obtain ⟨l, hl, h⟩ := List.exists_of_findSome?_eq_some h
    obtain ⟨p, hp, h4⟩ := List.exists_of_findSome?_eq_some h
    have ht := List.mem_range'.mp ht
    obtain ⟨i, hi, rfl⟩ := ht
    have hs := (logs_short hl).snoc hp
    split at h4
    · cases h4
      exact ⟨_, rfl, hs.ok (by omega)⟩
    · cases h4
end DG

/-! ## Lk17 -/
set_option Elab.async false
set_option linter.all false
set_option maxRecDepth 100000
set_option maxHeartbeats 1000000
namespace DG
open PySem PySem.Spec PyProof.Rows L2
def okR (r : Ru) : Prop := okRule r.1 r.2 ∧ r.2 ≤ 6
theorem okR_of {k : Kd} {n : Int} (h1 : 1 ≤ n) (h2 : n ≤ 6) : okR (k, n) := ⟨⟨h1, by
  have : (6 : Int) ≤ k.most := by cases k <;> decide
  show n ≤ k.most
  omega⟩, h2⟩
theorem comp_gl {f : D → W (Option D)} : ∀ (ds : List D) {Q : List D → Prop} {E : Exn → Prop}, (∀ d ∈ ds, ∀ (P : Option D → Prop) (E' : Exn → Prop), (∀ r, okR r → P (some (ruD r))) → f d P E') → (∀ rs : List Ru, rs.length = ds.length → (∀ r ∈ rs, okR r) → Q (rs.map ruD)) → compW ds f Q E
  | [], Q, E, _, q => q [] rfl fun _ m => by cases m
  | d :: ds, Q, E, h, q => by
    show (calmW (f d) >>= fun o => compW ds f >>= fun xs => pure (o.toList ++ xs)) Q E
    rw [bind_run, calm_run]
    refine h d List.mem_cons_self _ _ fun r hr => ?_
    rw [bind_run]
    refine comp_gl ds (fun d hd => h d (List.mem_cons_of_mem _ hd)) fun rs hl hk => ?_
    exact q (r :: rs) (by rw [List.length_cons, hl]; rfl) fun x hx => (List.mem_cons.mp hx).elim (fun z => z ▸ hr) (hk x)
theorem list_ok {P : D → Prop} {E : Exn → Prop} (h : ∀ rs, GL rs → P (glD rs)) : den__law_list [.bag] P E := by
  show dn__law_list P E
  unfold dn__law_list
  rw [bind_run]
  simp only [pure_bind, bind_assoc]
  refine take_then (by decide) fun z z0 z1 => ?_
  obtain ⟨c, hc, c1⟩ : ∃ c : Nat, 1 + z = (c : Int) ∧ (c = 1 ∨ c = 2) := ⟨(1 + z).toNat, by omega, by omega⟩
  have hl : ((List.range c).map fun i : Nat => D.int i).length ≤ 100000 := by
    rw [List.length_map, List.length_range]
    omega
  simp only [add_int, hc, pure_bind, rng1_nat (show c ≤ 1000000000 by omega), need_line hl]
  refine comp_gl _ (fun d _ Q E' hq => ?_) fun rs hrl hk => ?_
  · refine kind_then fun k => ?_
    refine take_then (by decide) fun n n0 n1 => ?_
    exact hq (k, 1 + n) (okR_of (by omega) (by omega))
  · rw [List.length_map, List.length_range] at hrl
    exact h rs ⟨by omega, hk⟩
theorem list_then {β : Type} {k : D → W β} {P : β → Prop} {E : Exn → Prop} (h : ∀ rs, GL rs → (k (glD rs)) P E) : (den__law_list [.bag] >>= k) P E := list_ok h
theorem lput_at {ds : List D} {i : Nat} {v : D} (h : i < ds.length) : lput ds (.int i) v = pure (ds.set i v) := by
  show optW (ixN ds.length i) _ = _
  have : ixN ds.length (i : Int) = some i := by
    unfold ixN
    rw [if_pos (by omega), if_pos (by omega)]
    rfl
  rw [this]
  rfl
theorem set_gl {rs : List Ru} (h : GL rs) {r : Ru} (hr : okR r) (i : Nat) : GL (rs.set i r) := ⟨by rw [List.length_set]; exact h.len, fun x hx => (List.mem_or_eq_of_mem_set hx).elim (h.ok x) fun z => z ▸ hr⟩
theorem solid_ru (r : Ru) : solidW (ruD r) = pure (ruD r) := by
  show (if _ then _ else _) = _
  rw [if_pos (by rfl)]
theorem solids_ru (rs : List Ru) : solidsW (rs.map ruD) = pure (rs.map ruD) := by
  have : solidL (rs.map ruD) = true := by
    induction rs with
    | nil => rfl
    | cons r rs ih =>
      show ((ruD r).solid && solidL (rs.map ruD)) = true
      rw [ih]
      rfl
  show (if _ then _ else _) = _
  rw [if_pos this]
def swapK : Kd → Kd
  | .last => .recent
  | .recent => .last
  | .hold => .renew
  | .renew => .hold
theorem similar_ok {P : D → Prop} {E : Exn → Prop} {rs : List Ru} (hg : GL rs) (h : ∀ rs, GL rs → P (glD rs)) : den__law_similar [.bag, glD rs] P E := by
  show dn__law_similar _ P E
  unfold dn__law_similar
  have e1 : listD [glD rs] = pure (rs.map ruD) := rfl
  have e2 : lenD [.lst (rs.map ruD)] = pure (.int (rs.length : Nat)) := by rw [len_lst, List.length_map]
  have hlen : 1 ≤ rs.length ∧ rs.length ≤ 2 := by rcases hg.len with e | e <;> omega
  simp only [pure_bind, e1, e2]
  rw [bind_run]
  simp only [bind_assoc]
  refine take_then (by omega) fun z z0 z1 => ?_
  obtain ⟨i, rfl⟩ : ∃ i : Nat, z = (i : Int) := ⟨z.toNat, by omega⟩
  have hi : i < rs.length := by omega
  have e3 : solidW (.int (i : Nat)) = pure (.int (i : Nat)) := rfl
  obtain ⟨r, hr⟩ : ∃ r, rs[i]? = some r := ⟨rs[i], List.getElem?_eq_getElem hi⟩
  have e4 : idxD (.lst (rs.map ruD)) (.int (i : Nat)) = pure (ruD r) := idxLm ruD hr
  have hok := hg.ok r (List.mem_of_getElem? hr)
  have e5 : patTup 2 (patCons pure (patOne pure)) (ruD r) = pure (D.str r.1.str, D.int r.2) := rfl
  rw [e3, pure_run]
  simp only [e4, solid_ru, e5, pure_bind]
  have hput : ∀ r' : Ru, lput (rs.map ruD) (.int (i : Nat)) (.tup [.str r'.1.str, .int r'.2]) = pure ((rs.set i r').map ruD) := fun r' => by
    rw [lput_at (by rw [List.length_map]; exact hi), List.map_set]
    rfl
  refine take_then (by decide) fun w w0 w1 => ?_
  have hw : w = 0 ∨ w = 1 ∨ w = 2 ∨ w = 3 := by omega
  rcases hw with rfl | rfl | rfl | rfl
  · obtain ⟨m, hm, ma, mb⟩ : ∃ m : Int, max 1 (min 6 (r.2 + 1)) = m ∧ 1 ≤ m ∧ m ≤ 6 := ⟨_, rfl, by omega, by omega⟩
    have hp := hput (r.1, m)
    simp only [eq_int, decide_true, boolD_bl, if_true, pure_bind, add_int, min_int, max_int, hm, hp]
    exact h _ (set_gl hg (okR_of ma mb) i)
  · have hk : kget (dispT ["last", "recent", "hold", "renew"] [.str "recent", .str "last", .str "renew", .str "hold"]) (.str r.1.str) = pure (.str (swapK r.1).str) := by
      cases r.1 <;> rfl
    have hp := hput (swapK r.1, r.2)
    simp only [eq_int, decide_true, show decide ((1 : Int) = 0) = false from rfl, boolD_bl, if_true, Bool.false_eq_true, if_false, pure_bind, hk, hp]
    exact h _ (set_gl hg (okR_of hok.1.1 hok.2) i)
  · have e6 : ∀ ds : List D, lstD (.lst ds) = pure ds := fun _ => rfl
    have e7 := solids_ru rs.reverse
    rw [List.map_reverse] at e7
    simp only [eq_int, decide_true, show decide ((2 : Int) = 0) = false from rfl, show decide ((2 : Int) = 1) = false from rfl, boolD_bl, if_true, Bool.false_eq_true, if_false, pure_bind, e6, e7]
    have : GL rs.reverse := ⟨by rw [List.length_reverse]; exact hg.len, fun x hx => hg.ok x (List.mem_reverse.mp hx)⟩
    have := h _ this
    unfold glD at this
    rw [List.map_reverse] at this
    exact this
  · simp only [eq_int, show decide ((3 : Int) = 0) = false from rfl, show decide ((3 : Int) = 1) = false from rfl, show decide ((3 : Int) = 2) = false from rfl, boolD_bl, Bool.false_eq_true, if_false, pure_bind, bind_assoc]
    refine take_then (by have := hok.1.1; omega) fun s s0 s1 => ?_
    have hr6 := hok.2
    have hx : GL ((rs ++ [((r.1, 1 + s) : Ru)]).take 2) := by
      refine ⟨?_, fun x hx => ?_⟩
      · rw [List.length_take, List.length_append, List.length_singleton]
        omega
      · rcases List.mem_append.mp (List.mem_of_mem_take hx) with z | z
        · exact hg.ok x z
        · rw [List.mem_singleton.mp z]
          exact okR_of (by omega) (by omega)
    have e6 : ∀ ds : List D, lstD (.lst ds) = pure ds := fun _ => rfl
    have e7 : addD (.lst (rs.map ruD)) (.lst [.tup [.str r.1.str, .int (1 + s)]]) = pure (.lst ((rs ++ [((r.1, 1 + s) : Ru)]).map ruD)) := by
      refine (add_lst' (by rw [List.length_map, List.length_singleton]; omega)).trans ?_
      rw [List.map_append]
      rfl
    have e8 : cutL ((rs ++ [((r.1, 1 + s) : Ru)]).map ruD) none (some 2) = ((rs ++ [((r.1, 1 + s) : Ru)]).take 2).map ruD := (cut_to _ 2).trans (by rw [List.map_take])
    have e9 : intD (.int 2) = pure 2 := rfl
    simp only [add_int, pure_bind, e7, e9, e6, e8, solids_ru, tuple_lst]
    exact h _ hx
theorem similar_then {β : Type} {k : D → W β} {P : β → Prop} {E : Exn → Prop} {rs : List Ru} (hg : GL rs) (h : ∀ rs, GL rs → (k (glD rs)) P E) : (den__law_similar [.bag, glD rs] >>= k) P E := similar_ok hg h
/-! ### errors -/
theorem gate_ty {d : D} (h : isiTD d "tuple" = pure (.bl false)) : den_is_gate_list [d] = pure (.bl false) := by
  show dn_is_gate_list _ = _
  unfold dn_is_gate_list
  simp only [pure_bind, h, boolD_bl, Bool.not_false, if_true]
theorem gate_len {d : D} {n : Nat} (h : isiTD d "tuple" = pure (.bl true)) (hl : lenTD [d] = pure (.int (n : Nat))) (hn : n ∉ [1, 2]) : den_is_gate_list [d] = pure (.bl false) := by
  show dn_is_gate_list _ = _
  unfold dn_is_gate_list
  have e3 : notInD (.int (n : Nat)) (.tup [.int 1, .int 2]) = pure (.bl true) := by
    refine (notIn_intT _ [1, 2]).trans ?_
    rw [decide_eq_false]
    · rfl
    · intro z
      simp only [List.mem_cons, List.not_mem_nil, or_false] at z hn
      omega
  simp only [pure_bind, h, hl, e3, boolD_bl, Bool.not_true, Bool.false_eq_true, if_false, if_true]
theorem gate_rules {ds : List D} {bs : List Bool} (hn : ds.length = 1 ∨ ds.length = 2) (hc : compW ds (fun d22 => (do let x23 ← den_is_rule [d22]; pure (some x23) : W (Option D))) = pure (bs.map D.bl)) (hb : bs.all id = false) : den_is_gate_list [.tup ds] = pure (.bl false) := by
  show dn_is_gate_list _ = _
  unfold dn_is_gate_list
  have e1 : isiTD (.tup ds) "tuple" = pure (.bl true) := by
    show isiD (.tup ds) "tuple" = _
    exact isi_tup_tuple _
  have e2 : lenTD [.tup ds] = pure (.int (ds.length : Nat)) := len_tup ds
  have e3 : notInD (.int (ds.length : Nat)) (.tup [.int 1, .int 2]) = pure (.bl false) := by
    refine (notIn_intT _ [1, 2]).trans ?_
    rcases hn with e | e <;> rw [e] <;> rfl
  have e4 : allD [.lst (bs.map D.bl)] = pure (.bl false) := by
    have := all_bl id bs
    rw [hb] at this
    exact this
  simp only [pure_bind, e1, e2, e3, boolD_bl, Bool.not_true, Bool.false_eq_true, if_false, seq_tup, need_line (show ds.length ≤ 100000 by rcases hn with e | e <;> omega), hc, e4, Bool.not_false, if_true]
theorem rule_ty {d : D} (h : isiD d "tuple" = pure (.bl false)) : den_is_rule [d] = pure (.bl false) := by
  show dn_is_rule _ = _
  unfold dn_is_rule
  simp only [pure_bind, h, boolD_bl, Bool.not_false, if_true]
theorem gate_seven : den_is_gate_list [.tup [.tup [.str "last", .int 7]]] = pure (.bl false) := by
  show dn_is_gate_list _ = _
  unfold dn_is_gate_list
  have e1 : isiTD (.tup [.tup [.str "last", .int 7]]) "tuple" = pure (.bl true) := by
    show isiD (.tup [.tup [.str "last", .int 7]]) "tuple" = _
    exact isi_tup_tuple _
  have e2 : lenTD [.tup [.tup [.str "last", .int 7]]] = pure (.int 1) := rfl
  have e3 : notInD (.int 1) (.tup [.int 1, .int 2]) = pure (.bl false) := (notIn_intT 1 [1, 2]).trans rfl
  have e4 : den_is_rule [.tup [.str "last", .int 7]] = pure (.bl true) := (is_rule_eq .last 7).trans (by rw [decide_eq_true (by decide)])
  have e5 : idxD (.tup [.str "last", .int 7]) (.int 1) = pure (.int 7) := rfl
  have c1 : ∀ f : D → W (Option D), (∀ d, f (.tup [.str "last", .int 7]) = pure (some d) → compW [.tup [.str "last", .int 7]] f = pure [d]) := fun f d hf => by
    show (calmW (f _) >>= fun o => compW [] f >>= fun xs => pure (o.toList ++ xs)) = _
    rw [hf]
    rfl
  have e6 := c1 (fun d22 => (do let x23 ← den_is_rule [d22]; pure (some x23) : W (Option D))) (.bl true) (by simp only [e4, pure_bind])
  have e7 := c1 (fun d42 => (do let x43 ← (do let x40 ← idxD d42 (.int 1); leD x40 (.int 6)); pure (some x43) : W (Option D))) (.bl false) (by simp only [e5, pure_bind, le_int]; rfl)
  have e8 : allD [.lst [.bl true]] = pure (.bl true) := all_bl id [true]
  have e9 : allD [.lst [.bl false]] = pure (.bl false) := all_bl id [false]
  simp only [pure_bind, e1, e2, e3, boolD_bl, Bool.not_true, Bool.false_eq_true, if_false, seq_tup, need_line (show [D.tup [.str "last", .int 7]].length ≤ 100000 by decide), e6, e7, e8, e9]
theorem two_rules {a b : D} {p q : Bool} (h1 : den_is_rule [a] = pure (.bl p)) (h2 : den_is_rule [b] = pure (.bl q)) : compW [a, b] (fun d22 => (do let x23 ← den_is_rule [d22]; pure (some x23) : W (Option D))) = pure ([p, q].map D.bl) := by
  show (calmW (den_is_rule [a] >>= fun x => pure (some x)) >>= fun o => (calmW (den_is_rule [b] >>= fun x => pure (some x)) >>= fun o2 => compW [] _ >>= fun xs => pure (o2.toList ++ xs)) >>= fun xs => pure (o.toList ++ xs)) = _
  rw [h1, h2]
  rfl
theorem bad_gates {rs : List Ru} (hg : GL rs) {r0 : Ru} {o : D} (h : o ∈ [D.non, .tup [], ruD r0, .lst (rs.map ruD), .tup [.tup [.str "last", .int 7]], .pr (List.replicate 3 (rs.map ruD)).flatten, .tup [.tup [.str "last", .int 1], .non]]) : den_is_gate_list [o] = pure (.bl false) := by
  simp only [List.mem_cons, List.not_mem_nil, or_false] at h
  rcases h with rfl | rfl | rfl | rfl | rfl | rfl | rfl
  · exact gate_ty isi_non_tuple
  · exact gate_len (n := 0) (isi_tup_tuple []) rfl (by decide)
  · exact gate_rules (.inr rfl) (two_rules (a := .str r0.1.str) (b := .int r0.2) (rule_ty (isi_str_tuple r0.1.str)) (rule_ty (isi_int_tuple r0.2))) rfl
  · exact gate_ty (isi_lst_tuple (rs.map ruD))
  · exact gate_seven
  · refine gate_len (n := 3 * rs.length) (isi_tup_tuple []) ?_ ?_
    · show pure (D.int ((List.replicate 3 (rs.map ruD)).flatten.length : Nat)) = _
      congr 3
      simp
      omega
    · rcases hg.len with e | e <;> rw [e] <;> decide
  · exact gate_rules (.inr rfl) (two_rules (p := true) ((is_rule_eq .last 1).trans (by rw [decide_eq_true (by decide)])) (rule_ty isi_non_tuple)) rfl
theorem tell_bad1 {o : D} (h : den_is_gate_list [o] = pure (.bl false)) (a b : D) : den_telling_log [o, a, b] = throwW "InvalidGate" := by
  show dn_telling_log _ _ _ = _
  unfold dn_telling_log
  simp only [pure_bind, h, boolD_bl, Bool.not_false, if_true]
theorem tell_bad2 {rs : List Ru} (hg : GL rs) {o : D} (h : den_is_gate_list [o] = pure (.bl false)) (b : D) : den_telling_log [glD rs, o, b] = throwW "InvalidGate" := by
  show dn_telling_log _ _ _ = _
  unfold dn_telling_log
  simp only [pure_bind, is_gates_eq hg, h, boolD_bl, Bool.not_true, Bool.not_false, Bool.false_eq_true, if_false, if_true]
theorem tell_bad3 {rs : List Ru} (hg : GL rs) {o : D} (h : den_is_integer [o, .int 1, .int 5] = pure (.bl false)) : den_telling_log [glD rs, glD rs, o] = throwW "InvalidLength" := by
  show dn_telling_log _ _ _ = _
  unfold dn_telling_log
  simp only [pure_bind, is_gates_eq hg, h, boolD_bl, Bool.not_true, Bool.not_false, Bool.false_eq_true, if_false, if_true]
theorem ne_tell (one other : List Ru) {n : Nat} (hn : n ≤ 5) : neD (tellD one other n) (tellD one other n) = pure (.bl false) := by
  rcases tell_cases one other hn with e | ⟨l, e, ok⟩
  · rw [e]
    exact ne_self shm_non (by decide)
  · rw [e]
    exact ne_self (shm_log ok) (by decide)
theorem lawB (ns : List Int) (Q : Out Unit → Prop) (hQ : ∀ o, goodO o → Q o) : (dnB_law ns) Q fun _ => False := by
  unfold dnB_law
  simp only [pure_bind]
  refine list_then fun one h1 => ?_
  simp only [bind_assoc]
  refine similar_then h1 fun r2 h2 => ?_
  refine list_then fun r3 h3 => ?_
  simp only [seq_tup, pure_bind]
  rw [bind_run]
  refine forX_unit (fun d hd Q hQ => ?_) ?_
  · obtain ⟨other, rfl, h4⟩ : ∃ rs, d = glD rs ∧ GL rs := by
      simp only [List.mem_cons, List.not_mem_nil, or_false] at hd
      rcases hd with rfl | rfl
      · exact ⟨r2, rfl, h2⟩
      · exact ⟨r3, rfl, h3⟩
    refine take_then (by decide) fun z z0 z1 => ?_
    obtain ⟨n, hn, n1, n4⟩ : ∃ n : Nat, 1 + z = (n : Int) ∧ 1 ≤ n ∧ n ≤ 4 := ⟨(1 + z).toNat, by omega, by omega, by omega⟩
    have e1 := law_telling_eq h1 h4 n4
    have e2 := telling_eq h1 h4 n1 (show n ≤ 5 by omega)
    have e3 := telling_eq h4 h1 n1 (show n ≤ 5 by omega)
    rw [tell_comm one other] at e3
    have e4 := ne_tell one other (show n ≤ 5 by omega)
    simp only [add_int, hn, pure_bind, e1, e2, e3, e4, boolD_bl, Bool.false_eq_true, if_false]
    exact hQ
  · have nG := ne_err (x := "InvalidGate") (by decide +kernel)
    have nL := ne_err (x := "InvalidLength") (by decide +kernel)
    have e1 := telling_eq h1 h1 (n := 3) (by decide) (by decide)
    rw [tell_self] at e1
    have e1' : den_telling_log [glD one, glD one, .int 3] = pure .non := e1
    have e2 : isNotD .non .non = pure (.bl false) := rfl
    have e3 : listD [glD one] = pure (one.map ruD) := rfl
    obtain ⟨r0, hr0⟩ : ∃ r0, idxD (glD one) (.int 0) = pure (ruD r0) := by
      rcases h1.cases with ⟨r, rfl⟩ | ⟨r1, r2, rfl⟩
      · exact ⟨r, rfl⟩
      · exact ⟨r1, rfl⟩
    have e4 : mulD (glD one) (.int 3) = pure (.pr (List.replicate 3 (one.map ruD)).flatten) := by
      refine need_of ⟨fun z => ?_, by decide, by decide, ?_⟩
      · have := congrArg List.length z
        rw [List.length_map] at this
        rcases h1.len with e | e <;> rw [e] at this <;> cases this
      · rw [List.length_map]
        rcases h1.len with e | e <;> omega
    simp only [out2W_nx, pure_bind, e1', e2, boolD_bl, Bool.false_eq_true, if_false, e3, hr0, e4, seq_tup]
    refine run_bind (a := Out.nx ()) (forX_each _ fun o ho => ?_) ?_
    · have hb := bad_gates h1 (r0 := r0) ho
      simp only [tell_bad1 hb, tell_bad2 h1 hb, catch_throw (show ("InvalidGate" : Str) ∈ errX by decide), pure_bind, nG, boolD_bl, Bool.false_eq_true, if_false]
    · simp only [out2W_nx, pure_bind, seq_tup]
      refine run_bind (a := Out.nx ()) (forX_each _ fun o ho => ?_) ?_
      · have hb : den_is_integer [o, .int 1, .int 5] = pure (.bl false) := by
          simp only [List.mem_cons, List.not_mem_nil, or_false] at ho
          rcases ho with rfl | rfl | rfl | rfl
          · rw [is_integer_eq]; rfl
          · rw [is_integer_eq]; rfl
          · exact int_bl _ _ _
          · exact int_non _ _
        simp only [tell_bad3 h1 hb, catch_throw (show ("InvalidLength" : Str) ∈ errX by decide), pure_bind, nL, boolD_bl, Bool.false_eq_true, if_false]
      · simp only [out2W_nx]
        exact hQ _ trivial
/-! ### the two written searches -/
def stepL (one other : List Ru) (l : Log) : Option Log := (nxt l).findSome? fun p => if dif one other l p = true then some (l ++ [p]) else none
def tellL (one other : List Ru) (n : Nat) : Option Log := (List.range' 0 n).findSome? fun t => (logsM t).findSome? (stepL one other)
theorem find_map {A B C : Type} (f : A → Option B) (g : B → C) : ∀ as : List A, (as.findSome? fun a => (f a).map g) = (as.findSome? f).map g
  | [] => rfl
  | a :: as => by
    rw [List.findSome?_cons, List.findSome?_cons]
    cases f a with
    | none => exact find_map f g as
    | some b => rfl
theorem tell_L (one other : List Ru) (n : Nat) : tellO one other n = (tellL one other n).map logD := by
  unfold tellO tellL
  rw [← find_map]
  refine congrArg (fun f => List.findSome? f (List.range' 0 n)) (funext fun t => ?_)
  unfold levO
  rw [← find_map]
  refine congrArg (fun f => List.findSome? f (logsM t)) (funext fun l => ?_)
  unfold stepO stepL
  rw [← find_map]
  refine congrArg (fun f => List.findSome? f (nxt l)) (funext fun p => ?_)
  split <;> rfl
theorem tell1 : tellL [(.hold, 1)] [(.hold, 2)] 3 = (some [((0 : Int), ("a" : Str)), ((1 : Int), ("a" : Str))] : Option Log) := by decide +kernel
theorem tell2 : tellL [(.last, 1)] [(.last, 2)] 5 = (some [((0 : Int), ("a" : Str)), ((0 : Int), ("b" : Str)), ((0 : Int), ("a" : Str))] : Option Log) := by decide +kernel
theorem lawR (ns : List Int) : (dnR_law ns) (fun d => d = .bl true) fun _ => False := by
  unfold dnR_law
  have g : ∀ (k : Kd) (n : Int), 1 ≤ n → n ≤ 6 → GL [(k, n)] := fun k n a b => ⟨.inl rfl, fun r hr => by rw [List.mem_singleton.mp hr]; exact okR_of a b⟩
  have e1 := telling_eq (g .hold 1 (by decide) (by decide)) (g .hold 2 (by decide) (by decide)) (n := 3) (by decide) (by decide)
  have e2 := telling_eq (g .last 1 (by decide) (by decide)) (g .last 2 (by decide) (by decide)) (n := 5) (by decide) (by decide)
  unfold tellD at e1 e2
  rw [tell_L, tell1] at e1
  rw [tell_L, tell2] at e2
  have e1' : den_telling_log [.tup [.tup [.str "hold", .int 1]], .tup [.tup [.str "hold", .int 2]], .int 3] = pure (.tup [.tup [.int 0, .str "a"], .tup [.int 1, .str "a"]]) := e1
  have e2' : den_telling_log [.tup [.tup [.str "last", .int 1]], .tup [.tup [.str "last", .int 2]], .int 5] = pure (.tup [.tup [.int 0, .str "a"], .tup [.int 0, .str "b"], .tup [.int 0, .str "a"]]) := e2
  have s1 : neD (.tup [.tup [.int 0, .str "a"], .tup [.int 1, .str "a"]]) (.tup [.tup [.int 0, .str "a"], .tup [.int 1, .str "a"]]) = pure (.bl false) := ne_self (shm_log (l := [(0, "a"), (1, "a")]) (by decide +kernel)) (by decide)
  have s2 : eqD (.tup [.tup [.int 0, .str "a"], .tup [.int 0, .str "b"], .tup [.int 0, .str "a"]]) (.tup [.tup [.int 0, .str "a"], .tup [.int 0, .str "b"], .tup [.int 0, .str "a"]]) = pure (.bl true) := eq_self (shm_log (l := [(0, "a"), (0, "b"), (0, "a")]) (by decide +kernel)) (by decide)
  simp only [pure_bind, e1', e2', s1, s2, boolD_bl, Bool.false_eq_true, if_false]
  rfl
end DG

/-! ## Fk17 -/
set_option Elab.async false
set_option linter.all false
set_option maxRecDepth 100000
set_option maxHeartbeats 4000000
namespace DG
open PySem PySem.Spec PyProof.Rows L2

def others : List Str := (["DedupError", "InvalidRule", "InvalidLog", "InvalidIndex", "InvalidKind", "InvalidSizes", "InvalidTraffic", "InvalidPause", "InvalidDecisions", "InvalidGate", "InvalidLength", "InvalidMessage", "NothingToUndo", "COUNT_KINDS", "TIME_KINDS", "MAX_COUNT", "MAX_TICK", "is_integer", "is_kind", "largest_size", "is_rule", "EMPTY", "remembers", "shortened", "received", "NAMES", "chain_received", "is_gate_list", "next_messages", "telling_log"] : List Str) ++ (["_law_cell_at", "_law_draws", "_law_bag", "_law_bags", "_law_take", "_law_kind", "_law_last_names", "_law_memory", "_law_past", "_law_flags", "_law_error", "_law_series", "_law_list_flags", "_law_list", "_law_similar", "_law_logs", "_law_telling"] : List Str)
def fa0 : List He.Fa := [.glo "is_integer", .keep "is_integer", .glo "is_kind", .keep "is_kind", .glo "largest_size", .keep "largest_size", .glo "is_rule", .keep "is_rule", .glo "remembers", .keep "remembers", .glo "shortened", .keep "shortened", .glo "received", .keep "received", .glo "chain_received", .keep "chain_received", .glo "is_gate_list", .keep "is_gate_list", .glo "next_messages", .keep "next_messages", .glo "telling_log", .keep "telling_log", .glo "_law_cell_at", .keep "_law_cell_at", .glo "_law_draws", .keep "_law_draws", .glo "_law_bag", .keep "_law_bag", .glo "_law_bags", .keep "_law_bags"]
def fa1 : List He.Fa := [.glo "_law_take", .keep "_law_take", .glo "_law_kind", .keep "_law_kind", .glo "_law_last_names", .keep "_law_last_names", .glo "_law_memory", .keep "_law_memory", .glo "_law_past", .keep "_law_past", .glo "_law_flags", .keep "_law_flags", .glo "_law_error", .keep "_law_error", .glo "_law_series", .keep "_law_series", .glo "_law_list_flags", .keep "_law_list_flags", .glo "_law_list", .keep "_law_list", .glo "_law_similar", .keep "_law_similar", .glo "_law_logs", .keep "_law_logs", .glo "_law_telling", .keep "_law_telling", .glo "law", .keep "law", .free "bool", .free "int"]
def fa2 : List He.Fa := [.free "isinstance", .free "str", .free "len", .free "tuple", .free "zip", .free "all", .free "range", .free "max", .free "min", .free "ValueError", .free "list", .glo "InvalidGate", .exc "InvalidGate", .glo "InvalidLength", .exc "InvalidLength"]
def faL : List He.Fa := fa0 ++ fa1 ++ fa2
def csL : List (Str × D) := [("COUNT_KINDS", c_COUNT_KINDS), ("TIME_KINDS", c_TIME_KINDS), ("MAX_COUNT", c_MAX_COUNT), ("MAX_TICK", c_MAX_TICK), ("NAMES", c_NAMES), ("EMPTY", c_EMPTY), ("InvalidGate", .scr []), ("InvalidLength", .scr [])]
def fnL : List He.FnD := [fnD "is_integer" st_is_integer, fnD "is_kind" st_is_kind, fnD "largest_size" st_largest_size, fnD "is_rule" st_is_rule, fnD "remembers" st_remembers, fnD "shortened" st_shortened, fnD "received" st_received, fnD "chain_received" st_chain_received, fnD "is_gate_list" st_is_gate_list, fnD "next_messages" st_next_messages, fnD "telling_log" st_telling_log, fnD "_law_cell_at" st__law_cell_at, fnD "_law_draws" st__law_draws, fnD "_law_bag" st__law_bag, fnD "_law_bags" st__law_bags, fnD "_law_take" st__law_take, fnD "_law_kind" st__law_kind, fnD "_law_last_names" st__law_last_names, fnD "_law_memory" st__law_memory, fnD "_law_past" st__law_past, fnD "_law_flags" st__law_flags, fnD "_law_error" st__law_error, fnD "_law_series" st__law_series, fnD "_law_list_flags" st__law_list_flags, fnD "_law_list" st__law_list, fnD "_law_similar" st__law_similar, fnD "_law_logs" st__law_logs, fnD "_law_telling" st__law_telling, fnD "law" st_law]
abbrev Rw : PySem.W.OpenRow := PySem.W.OpenLaw.row PySem.Challenge.rw_dedupgate_k17_telling_logs_by_search
abbrev hkL : PySem.W.Hook := hookX 5 faL csL fnL
def obL (s : PySem.W.SharedT) : AlX := obsXG 5 faL csL fnL (HandSHeadRun.getT s)
theorem obL_eq (s : PySem.W.SharedT) : obL s = hkL.obs s.abs := obsXG_eq (HandSHeadRun.getT_eq s)
theorem runL (w : World) : HandSHeadRun.RunEq Rw (PySem.W.view Rw.prog [52]) hkL obL 6000 others w := by
  intro os
  kernel_rfl
theorem allL {P : Program} {w : World} {K : PySem.W.Frag} {h : Heap} {mg : Str → Option Value} {fa : Addr} (X : K.In h) (G : h.Ns mainGlobals mg) (hfa : mg "law" = some (.ref fa)) (c : SaysX faL csL fnL K) :
    ∃ fd : FuncData, (∀ (s : Shared) (u : Value), BindsTo s fd ⟨[u], []⟩ [("script", u)]) ∧ ∀ base : Heap, FnOk P w K mg base (L2N.CX P w) 8 fa fd ["script"] (spLaw K) := by
  have b_bool := c.free X G 58 (x := "bool")
  have b_int := c.free X G 59 (x := "int")
  have b_isinstance := c.free X G 60 (x := "isinstance")
  have b_str := c.free X G 61 (x := "str")
  have b_len := c.free X G 62 (x := "len")
  have b_tuple := c.free X G 63 (x := "tuple")
  have b_zip := c.free X G 64 (x := "zip")
  have b_all := c.free X G 65 (x := "all")
  have b_range := c.free X G 66 (x := "range")
  have b_max := c.free X G 67 (x := "max")
  have b_min := c.free X G 68 (x := "min")
  have b_ValueError := c.free X G 69 (x := "ValueError")
  have b_list := c.free X G 70 (x := "list")
  have g_COUNT_KINDS := c.glob X G 0 (x := "COUNT_KINDS") (d := c_COUNT_KINDS)
  have g_TIME_KINDS := c.glob X G 1 (x := "TIME_KINDS") (d := c_TIME_KINDS)
  have g_MAX_COUNT := c.glob X G 2 (x := "MAX_COUNT") (d := c_MAX_COUNT)
  have g_MAX_TICK := c.glob X G 3 (x := "MAX_TICK") (d := c_MAX_TICK)
  have g_NAMES := c.glob X G 4 (x := "NAMES") (d := c_NAMES)
  have g_EMPTY := c.glob X G 5 (x := "EMPTY") (d := c_EMPTY)
  have e_InvalidGate := c.exc X G 71 (x := "InvalidGate")
  have e_InvalidLength := c.exc X G 73 (x := "InvalidLength")
  have er_InvalidGate := c.err X G 6 (x := "InvalidGate")
  have er_InvalidLength := c.err X G 7 (x := "InvalidLength")
  obtain ⟨cdE, hcdE⟩ : ∃ cd, mg "DedupError" = some cd := by
    obtain ⟨_, _, _, ⟨cd, h, _⟩, _⟩ := er_InvalidGate.ex
    exact ⟨cd, h⟩
  have herr : ∀ x ∈ errX, ErrC K mg x := fun x hx => by
    simp only [errX, List.mem_cons, List.not_mem_nil, or_false] at hx
    rcases hx with rfl | rfl <;> assumption
  have p_is_integer := c.pk X G 0 0 (x := "is_integer") (st := st_is_integer) (ps := ["value", "low", "high"]) (hb := fun _ _ _ _ _ _ us hl => match us, hl with | [_, _, _], _ => rfl)
  have p_is_kind := c.pk X G 2 1 (x := "is_kind") (st := st_is_kind) (ps := ["value"]) (hb := fun _ _ _ _ _ _ us hl => match us, hl with | [_], _ => rfl)
  have p_largest_size := c.pk X G 4 2 (x := "largest_size") (st := st_largest_size) (ps := ["kind"]) (hb := fun _ _ _ _ _ _ us hl => match us, hl with | [_], _ => rfl)
  have p_is_rule := c.pk X G 6 3 (x := "is_rule") (st := st_is_rule) (ps := ["value"]) (hb := fun _ _ _ _ _ _ us hl => match us, hl with | [_], _ => rfl)
  have p_remembers := c.pk X G 8 4 (x := "remembers") (st := st_remembers) (ps := ["rule", "state", "tick", "identifier"]) (hb := fun _ _ _ _ _ _ us hl => match us, hl with | [_, _, _, _], _ => rfl)
  have p_shortened := c.pk X G 10 5 (x := "shortened") (st := st_shortened) (ps := ["rule", "state"]) (hb := fun _ _ _ _ _ _ us hl => match us, hl with | [_, _], _ => rfl)
  have p_received := c.pk X G 12 6 (x := "received") (st := st_received) (ps := ["rule", "state", "tick", "identifier"]) (hb := fun _ _ _ _ _ _ us hl => match us, hl with | [_, _, _, _], _ => rfl)
  have p_chain_received := c.pk X G 14 7 (x := "chain_received") (st := st_chain_received) (ps := ["rules", "states", "tick", "identifier"]) (hb := fun _ _ _ _ _ _ us hl => match us, hl with | [_, _, _, _], _ => rfl)
  have p_is_gate_list := c.pk X G 16 8 (x := "is_gate_list") (st := st_is_gate_list) (ps := ["value"]) (hb := fun _ _ _ _ _ _ us hl => match us, hl with | [_], _ => rfl)
  have p_next_messages := c.pk X G 18 9 (x := "next_messages") (st := st_next_messages) (ps := ["log"]) (hb := fun _ _ _ _ _ _ us hl => match us, hl with | [_], _ => rfl)
  have p_telling_log := c.pk X G 20 10 (x := "telling_log") (st := st_telling_log) (ps := ["one", "other", "length"]) (hb := fun _ _ _ _ _ _ us hl => match us, hl with | [_, _, _], _ => rfl)
  have p__law_cell_at := c.pk X G 22 11 (x := "_law_cell_at") (st := st__law_cell_at) (ps := ["script", "k"]) (hb := fun _ _ _ _ _ _ us hl => match us, hl with | [_, _], _ => rfl)
  have p__law_draws := c.pk X G 24 12 (x := "_law_draws") (st := st__law_draws) (ps := ["cell", "many", "size"]) (hb := fun _ _ _ _ _ _ us hl => match us, hl with | [_, _, _], _ => rfl)
  have p__law_bag := c.pk X G 26 13 (x := "_law_bag") (st := st__law_bag) (ps := ["script", "k"]) (hb := fun _ _ _ _ _ _ us hl => match us, hl with | [_, _], _ => rfl)
  have p__law_bags := c.pk X G 28 14 (x := "_law_bags") (st := st__law_bags) (ps := ["script", "limit"]) (hb := fun _ _ _ _ _ _ us hl => match us, hl with | [_, _], _ => rfl)
  have p__law_take := c.pk X G 30 15 (x := "_law_take") (st := st__law_take) (ps := ["bag", "many"]) (hb := fun _ _ _ _ _ _ us hl => match us, hl with | [_, _], _ => rfl)
  have p__law_kind := c.pk X G 32 16 (x := "_law_kind") (st := st__law_kind) (ps := ["bag"]) (hb := fun _ _ _ _ _ _ us hl => match us, hl with | [_], _ => rfl)
  have p__law_last_names := c.pk X G 34 17 (x := "_law_last_names") (st := st__law_last_names) (ps := ["names", "size"]) (hb := fun _ _ _ _ _ _ us hl => match us, hl with | [_, _], _ => rfl)
  have p__law_memory := c.pk X G 36 18 (x := "_law_memory") (st := st__law_memory) (ps := ["rule", "past", "tick"]) (hb := fun _ _ _ _ _ _ us hl => match us, hl with | [_, _, _], _ => rfl)
  have p__law_past := c.pk X G 38 19 (x := "_law_past") (st := st__law_past) (ps := ["rule", "log"]) (hb := fun _ _ _ _ _ _ us hl => match us, hl with | [_, _], _ => rfl)
  have p__law_flags := c.pk X G 40 20 (x := "_law_flags") (st := st__law_flags) (ps := ["rule", "log"]) (hb := fun _ _ _ _ _ _ us hl => match us, hl with | [_, _], _ => rfl)
  have p__law_error := c.pk X G 42 21 (x := "_law_error") (st := st__law_error) (ps := ["call", "a", "b", "c"]) (hb := fun _ _ _ _ _ _ us hl => match us, hl with | [_, _, _, _], _ => rfl)
  have p__law_series := c.pk X G 44 22 (x := "_law_series") (st := st__law_series) (ps := ["first", "second", "log"]) (hb := fun _ _ _ _ _ _ us hl => match us, hl with | [_, _, _], _ => rfl)
  have p__law_list_flags := c.pk X G 46 23 (x := "_law_list_flags") (st := st__law_list_flags) (ps := ["rules", "log"]) (hb := fun _ _ _ _ _ _ us hl => match us, hl with | [_, _], _ => rfl)
  have p__law_list := c.pk X G 48 24 (x := "_law_list") (st := st__law_list) (ps := ["bag"]) (hb := fun _ _ _ _ _ _ us hl => match us, hl with | [_], _ => rfl)
  have p__law_similar := c.pk X G 50 25 (x := "_law_similar") (st := st__law_similar) (ps := ["bag", "rules"]) (hb := fun _ _ _ _ _ _ us hl => match us, hl with | [_, _], _ => rfl)
  have p__law_logs := c.pk X G 52 26 (x := "_law_logs") (st := st__law_logs) (ps := ["length"]) (hb := fun _ _ _ _ _ _ us hl => match us, hl with | [_], _ => rfl)
  have p__law_telling := c.pk X G 54 27 (x := "_law_telling") (st := st__law_telling) (ps := ["one", "other", "length"]) (hb := fun _ _ _ _ _ _ us hl => match us, hl with | [_, _, _], _ => rfl)
  have p_law := c.pk X G 56 28 (x := "law") (st := st_law) (ps := ["script"]) (hb := fun _ _ _ _ _ _ us hl => match us, hl with | [_], _ => rfl)
  obtain ⟨fd, F, hb⟩ := law_pk p_law hfa fun _ _ _ _ _ _ _ => rfl
  refine ⟨fd, hb, fun base => ?_⟩
  have c_is_integer := ok_is_integer (P := P) (w := w) (base := base) b_bool b_int b_isinstance p_is_integer
  have c_is_kind := ok_is_kind (P := P) (w := w) (base := base) b_isinstance b_str g_COUNT_KINDS g_TIME_KINDS p_is_kind
  have c_largest_size := ok_largest_size (P := P) (w := w) (base := base) g_COUNT_KINDS g_MAX_COUNT g_MAX_TICK p_largest_size
  have c_is_rule := ok_is_rule (P := P) (w := w) (base := base) b_isinstance b_len b_tuple c_is_kind c_is_integer c_largest_size p_is_rule
  have c_remembers := ok_remembers (P := P) (w := w) (base := base) g_COUNT_KINDS p_remembers
  have c_shortened := ok_shortened (P := P) (w := w) (base := base) g_COUNT_KINDS p_shortened
  have c_received := ok_received (P := P) (w := w) (base := base) c_remembers c_shortened p_received
  have c_chain_received := ok_chain_received (P := P) (w := w) (base := base) b_tuple b_zip c_received p_chain_received
  have c_is_gate_list := ok_is_gate_list (P := P) (w := w) (base := base) b_all b_isinstance b_len b_tuple c_is_rule p_is_gate_list
  have c_next_messages := ok_next_messages (P := P) (w := w) (base := base) b_range g_NAMES p_next_messages
  have c_telling_log := ok_telling_log (P := P) (w := w) (base := base) b_len b_range g_EMPTY e_InvalidGate e_InvalidLength c_is_gate_list c_is_integer c_next_messages c_chain_received p_telling_log
  have c__law_cell_at := ok__law_cell_at (P := P) (w := w) (base := base) b_len p__law_cell_at
  have c__law_draws := ok__law_draws (P := P) (w := w) (base := base) b_int b_range p__law_draws
  have c__law_bag := ok__law_bag (P := P) (w := w) (base := base) c__law_draws c__law_cell_at p__law_bag
  have c__law_bags := ok__law_bags (P := P) (w := w) (base := base) b_len b_max b_min b_range c__law_bag p__law_bags
  have c__law_take := (ok__law_take (P := P) (w := w) (base := base) b_len p__law_take).better take_better
  have c__law_kind := ok__law_kind (P := P) (w := w) (base := base) c__law_take p__law_kind
  have c__law_last_names := ok__law_last_names (P := P) (w := w) (base := base) b_len p__law_last_names
  have c__law_memory := ok__law_memory (P := P) (w := w) (base := base) c__law_last_names p__law_memory
  have c__law_past := ok__law_past (P := P) (w := w) (base := base) c__law_memory p__law_past
  have c__law_flags := ok__law_flags (P := P) (w := w) (base := base) c__law_past p__law_flags
  have c__law_error := ok__law_error (P := P) (w := w) (base := base) (xs := errX) b_isinstance b_ValueError herr (by decide) hcdE p__law_error
  have c__law_series := ok__law_series (P := P) (w := w) (base := base) b_zip c__law_flags p__law_series
  have c__law_list_flags := ok__law_list_flags (P := P) (w := w) (base := base) b_len c__law_flags c__law_series p__law_list_flags
  have c__law_list := ok__law_list (P := P) (w := w) (base := base) b_range b_tuple c__law_take c__law_kind p__law_list
  have c__law_similar := ok__law_similar (P := P) (w := w) (base := base) b_len b_list b_max b_min b_tuple c__law_take p__law_similar
  have c__law_logs := ok__law_logs (P := P) (w := w) (base := base) b_range p__law_logs
  have c__law_telling := ok__law_telling (P := P) (w := w) (base := base) b_range c__law_logs c__law_list_flags p__law_telling
  exact ok_law b_list c__law_list c__law_similar c__law_take c__law_telling c_telling_log c__law_error c__law_bags F (fun ns _ => bags_ok 2 (by decide) (by decide) ns) lawB lawR
end DG
open PySem PySem.W PySem.Calls PyProof.Rows
theorem PySem.Challenge.cw_dedupgate_k17_telling_logs_by_search_holds : PySem.Challenge.rw_dedupgate_k17_telling_logs_by_search.Holds := by
  w_on; o_law
  refine HandSHeadRun.head_any (r := OpenLaw.row PySem.Challenge.rw_dedupgate_k17_telling_logs_by_search) (q := view (OpenLaw.row PySem.Challenge.rw_dedupgate_k17_telling_logs_by_search).prog [52]) (H := DG.hkL) (ob := DG.obL) (M := 6000) (loose := DG.others) (d := HandSHeadRun.topDef (OpenLaw.row PySem.Challenge.rw_dedupgate_k17_telling_logs_by_search).prog 52) (kwd := []) DG.obL_eq
    (by kernel_rfl) (fun s => by kernel_rfl) DG.runL (by kernel_rfl) (by kernel_rfl) (by kernel_rfl) (by rfl) (by first | assumption | decide +kernel) (by decide +kernel) ⟨rfl, rfl, rfl, rfl, rfl, by decide +kernel⟩ ?hw ?hc
  case hw => w_witness2
  case hc =>
    refine DG.walk_ofY (l := PySem.Challenge.rw_dedupgate_k17_telling_logs_by_search) (n := 63) (k := 8) rfl (by decide) (by kernel_rfl) ⟨rfl, by decide, by decide⟩ ?F
    intro w mg fa h Y G hmg0
    obtain ⟨K, KX, c⟩ := Y
    have hmg : mg ("law" : PySem.Str) = some (.ref fa) := by
      have e : (HandSHeadRun.topDef (OpenLaw.row PySem.Challenge.rw_dedupgate_k17_telling_logs_by_search).prog 52).name = ("law" : PySem.Str) := by kernel_rfl
      rw [← e]
      exact hmg0
    obtain ⟨fd, hb, hF⟩ := DG.allL (P := (PySem.Challenge.rw_dedupgate_k17_telling_logs_by_search).prog) (w := w) KX G hmg c
    exact ⟨K, fd, KX, hb, hF⟩
#print axioms PySem.Challenge.cw_dedupgate_k17_telling_logs_by_search_holds

