import PyProof.Rows.All
import Wide.All
import OpenK.AllK
import Wide.FinOn
import KE.KStateDown
import Lean
import HandS.ForMost
import HandS.Exc
import HandS.Sort
import HandS.SortInts
import HandS.SortKw
import HandS.ListItems
import HandS.Conv
import HandS.Style
import HandS.IsInst
import HandS.Walk
import HandS.Flow
import HandS.Zip
import HandS.Deep
import HandS.SetFor
import HandS.RevRange
import HandS.StrMore
import HandS.Defaults
import HandS.ExcOwn
import HandS.WordsExc
import HandS.TryOnly
import HandS.ExcIs
import HandS.Lambda
import HandS.Evl
import HandS.Head0
import HandS.Head1
import HandS.Head2
import HandS.HeadEnd
import HandS.HeadHook1
import HandS.HeadHook2
import HandS.HeadHook3
import HandS.HeadHook4
import HandS.HeadWalk
import HandS.EndTab
import PySem.Challenge.RW_apartrow_k06_counts
set_option Elab.async false
set_option linter.all false
set_option maxRecDepth 100000
set_option maxHeartbeats 4000000
namespace Ap
open PySem PySem.Spec PyProof.Rows L2
/-! ### the top's facts, a def, a method, a class by its name -/
structure Top (fa : List He.Fa) (fn : List He.DefD) (ex : PySem.W.Frag → Bool) (tf : List He.Defn) (K : PySem.W.Frag) (mg : Str → Option Value) (base : Heap) : Prop where
  d : He.SaysD fa fn K
  ex : ex K = true
  g : ∃ h, K.In h ∧ h.Ns mainGlobals mg
  tb : ∀ p ∈ tf, LamX.TabB base mg (He.cT K p).1 (He.cT K p).2
section
variable {fa : List He.Fa} {fn : List He.DefD} {ex : PySem.W.Frag → Bool} {tf : List He.Defn} {K : PySem.W.Frag} {mg : Str → Option Value} {base : Heap}
theorem Top.free (T : Top fa fn ex tf K mg base) (i : Nat) {x : Str} (h : fa[i]? = some (.free x) := by rfl) : mg x = none := by
  obtain ⟨hp, X, G⟩ := T.g
  exact He.free_ok X G (T.d.fact i h)
theorem Top.glo (T : Top fa fn ex tf K mg base) (i : Nat) {x : Str} (h : fa[i]? = some (.glo x) := by rfl) : mg x = some (.ref (He.ga K x)) := by
  obtain ⟨hp, X, G⟩ := T.g
  exact He.glo_ok X G (T.d.fact i h)
theorem Top.int (T : Top fa fn ex tf K mg base) (i : Nat) {x : Str} {n : Int} (h : fa[i]? = some (.int x n) := by rfl) : ∃ t, mg x = some (.int n t) := by
  obtain ⟨hp, X, G⟩ := T.g
  exact He.int_ok X G (T.d.fact i h)
theorem Top.str (T : Top fa fn ex tf K mg base) (i : Nat) {x z : Str} (h : fa[i]? = some (.str x z) := by rfl) : ∃ t, mg x = some (.str z t) := by
  obtain ⟨hp, X, G⟩ := T.g
  exact He.str_ok X G (T.d.fact i h)
end
/-- an own exception class over ValueError -/
abbrev ExcC (K : PySem.W.Frag) (x : Str) : Prop := PySem.W.excIn K (He.ga K x) He.veBase "ValueError.__new__" = true ∧ PySem.W.keepIn K (.ref (He.ga K x)) = true ∧ PySem.W.subIn K (.ref (He.ga K x)) (.type "BaseException") = some true ∧
    PySem.W.typeIn K (.ref (He.ga K x)) = some (.type "type")
/-- a def of the module by its name keeps sp -/
def DefOk (P : Program) (w : World) (K : PySem.W.Frag) (mg : Str → Option Value) (base : Heap) (CX : CXT) (k : Nat) (x : Str) (ps : List Str) (sp : Sp) : Prop :=
  ∃ fd, FnOk P w K mg base CX k (He.ga K x) fd ps sp ∧ Binds K fd ps [] ∧ PySem.W.keepIn K (.ref (He.ga K x)) = true ∧ mg x = some (.ref (He.ga K x))
/-- a method -/
def MetOk (P : Program) (w : World) (K : PySem.W.Frag) (mg : Str → Option Value) (base : Heap) (CX : CXT) (k : Nat) (C m : Str) (ps : List Str) (sp : Sp) : Prop :=
  ∃ f fd, FnOk P w K mg base CX k f fd ps sp ∧ Binds K fd ps [] ∧ Cls K (He.ga K C) ∧ Meth K (He.ga K C) m f
/-- a class, by its __init__ -/
def MakOk (P : Program) (w : World) (K : PySem.W.Frag) (mg : Str → Option Value) (base : Heap) (CX : CXT) (k : Nat) (C : Str) (ps : List Str) (sp : Sp) : Prop :=
  ∃ f fd, FnOk P w K mg base CX k f fd ps sp ∧ Binds K fd ps [] ∧ Mk K (He.ga K C) f ∧ mg C = some (.ref (He.ga K C))
section
variable {X : Cx} {CX : CXT} {k : Nat} {C m x : Str} {ps : List Str} {sp : Sp} {E : XK} {p pos apos : Pos} {e o : Expr} {es : List Expr} {ta : TE} {t : TA}
theorem pe_fn (D : DefOk X.prog X.w X.K X.mg X.base CX k x ps sp) (hr : Room k X.A) (hg : Gl X x) (hx : Passes CX X E) (ha : PA X (e :: es) t) (hdb : (x == ("__debug__" : Str)) = false := by decide)
    (he : starEach (e :: es) X.env = (false, eval e X.env) :: starEach es X.env := by rfl) (hpl : (backTo pos (starEach es X.env)).any (·.1) = false := by rfl) : PE X (.Call (.Name x p) (e :: es) [] pos) (tCall sp [] E t) := by
  obtain ⟨fd, F, b, kp, hm⟩ := D
  exact pe_call F hr hg hm kp b .nil hx ha hdb he hpl
theorem pe_fn0 (D : DefOk X.prog X.w X.K X.mg X.base CX k x ps sp) (hr : Room k X.A) (hg : Gl X x) (hx : Passes CX X E) (hdb : (x == ("__debug__" : Str)) = false := by decide) : PE X (.Call (.Name x p) [] [] pos) (tCall sp [] E tNil) := by
  obtain ⟨fd, F, b, kp, hm⟩ := D
  exact pe_call0 F hr hg hm kp b .nil hx hdb
theorem pe_mt {pl : Sem Bool} (M : MetOk X.prog X.w X.K X.mg X.base CX k C m ps sp) (hr : Room k X.A) (hx : Passes CX X E) (he : PE X o ta) (ha : PA X (e :: es) t)
    (hst : starEach (e :: es) X.env = (false, eval e X.env) :: starEach es X.env := by rfl) (hpl : (backTo pos (starEach es X.env)).any (·.1) = false := by rfl)
    (ht : eval (.Call (.Attribute o m apos) (e :: es) [] pos) X.env = (do
      let ov ← eval o X.env
      standAt apos.atName
      let (f, first) ← holding [ov] (getMethod ov m pl)
      callWith pos f first (backTo pos (starEach (e :: es) X.env)) (backToKw pos (keywordEach [] X.env))) := by rfl) :
    PE X (.Call (.Attribute o m apos) (e :: es) [] pos) (tMeth (He.ga X.K C) m sp [] E ta t) := by
  obtain ⟨f, fd, F, b, c, mt⟩ := M
  exact pe_meth he c mt F hr b .nil hx ha hst hpl ht
theorem pe_mk (M : MakOk X.prog X.w X.K X.mg X.base CX k C ps sp) (hr : Room (k + 1) X.A) (hg : Gl X C) (hx : Passes CX X E) (ha : PA X (e :: es) t) (hdb : (C == ("__debug__" : Str)) = false := by decide)
    (he : starEach (e :: es) X.env = (false, eval e X.env) :: starEach es X.env := by rfl) (hpl : (backTo pos (starEach es X.env)).any (·.1) = false := by rfl) : PE X (.Call (.Name C p) (e :: es) [] pos) (tMake (He.ga X.K C) sp [] E t) := by
  obtain ⟨f, fd, F, b, mk, hm⟩ := M
  exact pe_make mk F hr hg hm b .nil hx ha hdb he hpl
end
/-! ### promises by the number of arguments -/
def sp1 (f : V → Hp → VK → XK → Prop) : Sp := fun vs H Q E => ∃ x, vs = [x] ∧ f x H Q E
def sp2 (f : V → V → Hp → VK → XK → Prop) : Sp := fun vs H Q E => ∃ x y, vs = [x, y] ∧ f x y H Q E
def sp3 (f : V → V → V → Hp → VK → XK → Prop) : Sp := fun vs H Q E => ∃ x y z, vs = [x, y, z] ∧ f x y z H Q E
def sp4 (f : V → V → V → V → Hp → VK → XK → Prop) : Sp := fun vs H Q E => ∃ x y z u, vs = [x, y, z, u] ∧ f x y z u H Q E
theorem len1 {f : V → Hp → VK → XK → Prop} : ∀ vs H Q E, sp1 f vs H Q E → vs.length = 1 := fun _ _ _ _ ⟨_, e, _⟩ => by rw [e]; rfl
theorem len2 {f : V → V → Hp → VK → XK → Prop} : ∀ vs H Q E, sp2 f vs H Q E → vs.length = 2 := fun _ _ _ _ ⟨_, _, e, _⟩ => by rw [e]; rfl
theorem len3 {f : V → V → V → Hp → VK → XK → Prop} : ∀ vs H Q E, sp3 f vs H Q E → vs.length = 3 := fun _ _ _ _ ⟨_, _, _, e, _⟩ => by rw [e]; rfl
theorem len4 {f : V → V → V → V → Hp → VK → XK → Prop} : ∀ vs H Q E, sp4 f vs H Q E → vs.length = 4 := fun _ _ _ _ ⟨_, _, _, _, e, _⟩ => by rw [e]; rfl
/-! ### heaps -/
abbrev LI (L : List Int) : List V := L.map V.int
theorem same_upd {H : Hp} {p : Addr} {o : HO} (h : H p = none) : Same H (upd H p o) := fun b x e => by
  rw [upd_ne (ne_of_none e h)]
  exact e
theorem sm_put {H H' : Hp} {p : Addr} {o : HO} (s : Same H H') (h : H p = none) : Same H (upd H' p o) := fun b x e => by
  rw [upd_ne (ne_of_none e h)]
  exact s _ _ e
theorem sm_tup {K : PySem.W.Frag} {H H' : Hp} {a : Addr} {xs : List V} (e : Same H H') (h : SqT K H a xs) : SqT K H' a xs := by
  rcases h with (h | ⟨o, h⟩) | h
  · exact .inl (.inl (e _ _ h))
  · exact .inl (.inr ⟨o, e _ _ h⟩)
  · exact .inr h
theorem sz_le {n : Nat} (h : n ≤ 1000000) : n ≤ sizeLine := by rw [sizeLine_eq]; omega
theorem sz_lt {n : Nat} (h : n < 1000000) : n < sizeLine := by rw [sizeLine_eq]; omega
theorem li_get {L : List Int} {i : Nat} (h : i < L.length) : (LI L)[i]? = some (.int L[i]) := by
  rw [List.getElem?_map, List.getElem?_eq_getElem h]
  rfl
theorem li_inv {L : List Int} {i : Nat} {v : V} (h : (LI L)[i]? = some v) : ∃ n, L[i]? = some n ∧ v = .int n := by
  rw [List.getElem?_map] at h
  cases e : L[i]? with
  | none => rw [e] at h; cases h
  | some n => rw [e] at h; exact ⟨n, rfl, (Option.some.inj h).symm⟩
theorem li_snoc {L : List Int} {z : Int} : LI L ++ [V.int z] = LI (L ++ [z]) := by simp [LI]
/-! ### the law's heap -/
def cellAt (ns : List Int) (k : Int) : Int := (ns[k.toNat]?).getD 0
def primes : List Int := [1000003, 1000033, 1000037, 1000039, 1000081, 1000099, 1000117, 1000121, 1000133, 1000151, 1000159, 1000171, 1000183, 1000187, 1000193, 1000199]
def draw (c k m : Int) : Int := (c * 48271 + k * 69621) % (primes.getD (k % 16).toNat 1) % m
/-! ### sorted, tables of counts -/
def srt (L : List Int) : List Int := L.mergeSort (fun a b => decide (a ≤ b))
theorem srt_perm (L : List Int) : (srt L).Perm L := List.mergeSort_perm L _
theorem srt_sorted (L : List Int) : (srt L).Pairwise (· ≤ ·) := by
  have h := List.pairwise_mergeSort (le := fun a b : Int => decide (a ≤ b)) (fun a b c h1 h2 => by simp at *; omega) (fun a b => by simp; omega) L
  exact h.imp fun h => by simpa using h
theorem sorted_eq {l L : List Int} (p : l.Perm L) (s : l.Pairwise (· ≤ ·)) : l = srt L :=
  List.Perm.eq_of_pairwise (le := fun a b : Int => a ≤ b) (fun a b _ _ h1 h2 => Int.le_antisymm h1 h2) s (srt_sorted L) (p.trans (srt_perm L).symm)
theorem srt_eq_iff {L M : List Int} : srt L = srt M ↔ L.Perm M := by
  constructor
  · intro h
    exact ((srt_perm L).symm.trans (h ▸ List.Perm.refl _)).trans (srt_perm M)
  · intro h
    exact sorted_eq ((srt_perm L).trans h) (srt_sorted L)
theorem srt_len (L : List Int) : (srt L).length = L.length := (srt_perm L).length_eq
theorem srt_count (L : List Int) (k : Int) : (srt L).count k = L.count k := (srt_perm L).count_eq k
theorem srt_mem (L : List Int) {k : Int} : k ∈ srt L ↔ k ∈ L := (srt_perm L).mem_iff
/-- a table of ints -/
abbrev Tab := List (Int × Int)
def lk : Tab → Int → Option Int
  | [], _ => none
  | p :: r, k => if p.1 = k then some p.2 else lk r k
def pu : Tab → Int → Int → Tab
  | [], k, v => [(k, v)]
  | p :: r, k, v => if p.1 = k then (k, v) :: r else p :: pu r k v
/-- as the layer has it -/
def dk (d : Tab) : List (Key × V) := d.map fun p => (Sum.inl p.1, V.int p.2)
theorem dk_len (d : Tab) : (dk d).length = d.length := List.length_map _
theorem key_inl {a b : Int} : (Sum.inl a : Key) = Sum.inl b ↔ a = b := ⟨fun h => Sum.inl.inj h, fun h => by rw [h]⟩
theorem dk_val (d : Tab) (k : Int) : valV (dk d) (Sum.inl k) = (lk d k).map V.int := by
  induction d with
  | nil => rfl
  | cons p r ih =>
    show valV ((Sum.inl p.1, V.int p.2) :: dk r) (Sum.inl k) = _
    by_cases e : p.1 = k
    · rw [valV_pos (by rw [e])]
      simp [lk, e]
    · rw [valV_neg (fun z => e (key_inl.mp z)), ih]
      simp [lk, e]
theorem keys_lk {d : Tab} {k : Int} : k ∈ d.map (·.1) ↔ (lk d k).isSome = true := by
  induction d with
  | nil => simp [lk]
  | cons p r ih =>
    by_cases e : p.1 = k
    · simp [lk, e]
    · have : ¬ k = p.1 := fun z => e z.symm
      rw [List.map_cons, List.mem_cons, ih]
      simp [lk, e, this]
theorem pu_new {d : Tab} {k : Int} (v : Int) (h : lk d k = none) : pu d k v = d ++ [(k, v)] := by
  induction d with
  | nil => rfl
  | cons p r ih =>
    by_cases e : p.1 = k
    · simp [lk, e] at h
    · simp [lk, e] at h
      simp [pu, e, ih h]
theorem dk_put (d : Tab) (k v : Int) (hn : (d.map (·.1)).Nodup) : putK (dk d) (Sum.inl k) (.int v) = dk (pu d k v) := by
  cases hv : lk d k with
  | none =>
    have : valV (dk d) (Sum.inl k) = none := by rw [dk_val, hv]; rfl
    rw [putK_new _ this, pu_new v hv]
    simp [dk]
  | some x =>
    have h1 : (valV (dk d) (Sum.inl k)).isSome = true := by rw [dk_val, hv]; rfl
    unfold putK
    rw [valV_any, h1, if_pos rfl]
    clear h1
    induction d generalizing x with
    | nil => simp [lk] at hv
    | cons p r ih =>
      rw [List.map_cons, List.nodup_cons] at hn
      by_cases e : p.1 = k
      · have hr : ∀ q ∈ r, ¬ q.1 = k := fun q hq z => hn.1 (by rw [e, ← z]; exact List.mem_map_of_mem hq)
        have : (dk r).map (fun kv : Key × V => if kv.1 = Sum.inl k then (kv.1, V.int v) else kv) = dk r := by
          unfold dk
          rw [List.map_map]
          refine List.map_congr_left fun q hq => ?_
          have : ¬ (Sum.inl q.1 : Key) = Sum.inl k := fun z => hr q hq (key_inl.mp z)
          simp [this]
        show (if (Sum.inl p.1 : Key) = Sum.inl k then _ else _) :: (dk r).map _ = _
        rw [this, if_pos (by rw [e])]
        simp [pu, e, dk]
      · simp [lk, e] at hv
        have := ih hn.2 x hv
        show (if (Sum.inl p.1 : Key) = Sum.inl k then _ else _) :: (dk r).map _ = _
        rw [this, if_neg (fun z => e (key_inl.mp z))]
        simp [pu, e, dk]
theorem lk_pu (d : Tab) (k j v : Int) : lk (pu d k v) j = if j = k then some v else lk d j := by
  induction d with
  | nil =>
    by_cases e : j = k
    · simp [pu, lk, e]
    · have : ¬ k = j := fun z => e z.symm
      simp [pu, lk, e, this]
  | cons p r ih =>
    by_cases e : p.1 = k
    · subst e
      by_cases e2 : j = p.1
      · subst e2
        simp [pu, lk]
      · have : ¬ p.1 = j := fun z => e2 z.symm
        simp [pu, lk, this, e2]
    · by_cases e3 : p.1 = j
      · subst e3
        simp [pu, lk, e]
      · simp [pu, lk, e, e3, ih]
theorem pu_keys (d : Tab) (k v : Int) : (pu d k v).map (·.1) = if (lk d k).isSome = true then d.map (·.1) else d.map (·.1) ++ [k] := by
  induction d with
  | nil => simp [pu, lk]
  | cons p r ih =>
    by_cases e : p.1 = k
    · subst e
      simp [pu, lk]
    · simp [pu, lk, e, ih]
      split <;> rfl
theorem pu_nodup {d : Tab} (k v : Int) (hn : (d.map (·.1)).Nodup) : ((pu d k v).map (·.1)).Nodup := by
  rw [pu_keys]
  split
  · exact hn
  · rename_i h
    refine List.nodup_append.mpr ⟨hn, by simp, fun a ha b hb e => ?_⟩
    rw [List.mem_singleton.mp hb] at e
    rw [e] at ha
    exact h (keys_lk.mp ha)
theorem pu_len (d : Tab) (k v : Int) : (pu d k v).length ≤ d.length + 1 := by
  induction d with
  | nil => simp [pu]
  | cons p r ih =>
    simp only [pu]
    split <;> simp <;> omega
def step1 (d : Tab) (k : Int) : Tab := pu d k ((lk d k).getD 0 + 1)
def tally (l : List Int) : Tab := l.foldl step1 []
theorem tally_snoc (l : List Int) (k : Int) : tally (l ++ [k]) = step1 (tally l) k := by
  unfold tally
  rw [List.foldl_append]
  rfl
theorem snoc_ind {P : List Int → Prop} (h0 : P []) (hs : ∀ l k, P l → P (l ++ [k])) (l : List Int) : P l := by
  have : ∀ n (l : List Int), l.length = n → P l := by
    intro n
    induction n with
    | zero =>
      intro l e
      rw [List.length_eq_zero_iff.mp e]
      exact h0
    | succ n ih =>
      intro l e
      have hne : l ≠ [] := by
        intro z
        rw [z] at e
        cases e
      rw [← List.dropLast_concat_getLast hne]
      exact hs _ _ (ih _ (by rw [List.length_dropLast, e]; rfl))
  exact this _ l rfl
theorem tally_nodup (l : List Int) : ((tally l).map (·.1)).Nodup := by
  refine snoc_ind (P := fun l => ((tally l).map (·.1)).Nodup) (by simp [tally]) (fun l k h => ?_) l
  rw [tally_snoc]
  exact pu_nodup _ _ h
theorem tally_lk (l : List Int) (k : Int) : lk (tally l) k = if l.count k = 0 then none else some (l.count k : Int) := by
  refine snoc_ind (P := fun l => ∀ k, lk (tally l) k = if l.count k = 0 then none else some (l.count k : Int)) (by simp [tally, lk]) (fun l j h k => ?_) l k
  rw [tally_snoc, step1, lk_pu, h j, h k, List.count_append]
  by_cases e : k = j
  · subst e
    rw [if_pos rfl, List.count_singleton_self]
    by_cases z : l.count k = 0
    · simp [z]
    · simp [z]
  · have : List.count k [j] = 0 := by
      rw [List.count_eq_zero]
      simp [e]
    rw [if_neg e, this]
    rfl
theorem tally_mem {l : List Int} {k : Int} : k ∈ (tally l).map (·.1) ↔ k ∈ l := by
  rw [keys_lk, tally_lk]
  by_cases h : l.count k = 0
  · simp [h, List.count_eq_zero.mp h]
  · simp [h]
    exact List.one_le_count_iff.mp (by omega)
theorem tally_len (l : List Int) : (tally l).length ≤ l.length := by
  refine snoc_ind (P := fun l => (tally l).length ≤ l.length) (by simp [tally]) (fun l k h => ?_) l
  rw [tally_snoc, List.length_append]
  have := pu_len (tally l) k ((lk (tally l) k).getD 0 + 1)
  show (pu _ _ _).length ≤ l.length + 1
  omega
theorem lk_of_mem {d : Tab} (hn : (d.map (·.1)).Nodup) {p : Int × Int} (h : p ∈ d) : lk d p.1 = some p.2 := by
  induction d with
  | nil => cases h
  | cons q r ih =>
    rw [List.map_cons, List.nodup_cons] at hn
    rcases List.mem_cons.mp h with e | e
    · rw [e]
      simp [lk]
    · have : ¬ q.1 = p.1 := fun z => hn.1 (z ▸ List.mem_map_of_mem e)
      simp [lk, this, ih hn.2 e]
theorem mem_of_lk {d : Tab} {k v : Int} (h : lk d k = some v) : (k, v) ∈ d := by
  induction d with
  | nil => cases h
  | cons q r ih =>
    by_cases e : q.1 = k
    · simp [lk, e] at h
      rw [← e, ← h]
      exact List.mem_cons_self
    · simp [lk, e] at h
      exact List.mem_cons_of_mem _ (ih h)
theorem mem_tally {l : List Int} {p : Int × Int} : p ∈ tally l ↔ p.1 ∈ l ∧ p.2 = l.count p.1 := by
  constructor
  · intro h
    have h1 := lk_of_mem (tally_nodup l) h
    rw [tally_lk] at h1
    by_cases z : l.count p.1 = 0
    · rw [if_pos z] at h1
      cases h1
    · rw [if_neg z] at h1
      exact ⟨List.one_le_count_iff.mp (by omega), (Option.some.inj h1).symm⟩
  · intro ⟨h1, h2⟩
    have h3 : lk (tally l) p.1 = some p.2 := by
      have h4 := List.one_le_count_iff.mpr h1
      rw [tally_lk, if_neg (by omega), h2]
    exact mem_of_lk h3
/-- of a sorted list the keys rise -/
theorem tally_rise {l : List Int} (h : l.Pairwise (· ≤ ·)) : ((tally l).map (·.1)).Pairwise (· < ·) := by
  refine snoc_ind (P := fun l => l.Pairwise (· ≤ ·) → ((tally l).map (·.1)).Pairwise (· < ·)) (fun _ => by simp [tally]) (fun l k ih h => ?_) l h
  obtain ⟨h1, _, h2⟩ := List.pairwise_append.mp h
  rw [tally_snoc, step1, pu_keys]
  split
  · exact ih h1
  · rename_i z
    refine List.pairwise_append.mpr ⟨ih h1, by simp, fun a ha b hb => ?_⟩
    rw [List.mem_singleton.mp hb]
    have ha' := tally_mem.mp ha
    have hle := h2 a ha' k (by simp)
    have hne : a ≠ k := fun e => z (keys_lk.mp (e ▸ ha))
    omega
theorem nodup_of_map {α β : Type} {f : α → β} : ∀ {l : List α}, (l.map f).Nodup → l.Nodup
  | [], _ => List.nodup_nil
  | a :: r, h => by
    rw [List.map_cons, List.nodup_cons] at h
    exact List.nodup_cons.mpr ⟨fun m => h.1 (List.mem_map_of_mem m), nodup_of_map h.2⟩
theorem tally_perm {l m : List Int} (h : l.Perm m) : (tally l).Perm (tally m) := by
  refine (List.perm_ext_iff_of_nodup (nodup_of_map (tally_nodup l)) (nodup_of_map (tally_nodup m))).mpr fun p => ?_
  rw [mem_tally, mem_tally, h.mem_iff, h.count_eq]
/-- each kind and how many there are, rising -/
def cn (L : List Int) : Tab := tally (srt L)
theorem cn_nodup (L : List Int) : ((cn L).map (·.1)).Nodup := tally_nodup _
theorem cn_rise (L : List Int) : ((cn L).map (·.1)).Pairwise (· < ·) := tally_rise (srt_sorted L)
theorem mem_cn {L : List Int} {p : Int × Int} : p ∈ cn L ↔ p.1 ∈ L ∧ p.2 = L.count p.1 := by
  unfold cn
  rw [mem_tally, srt_mem, srt_count]
theorem cn_lk (L : List Int) (k : Int) : lk (cn L) k = if L.count k = 0 then none else some (L.count k : Int) := by
  unfold cn
  rw [tally_lk, srt_count]
theorem cn_len (L : List Int) : (cn L).length ≤ L.length := by
  have := tally_len (srt L)
  rw [srt_len] at this
  exact this
theorem cn_perm (L : List Int) : (cn L).Perm (tally L) := tally_perm (srt_perm L)
theorem cn_of_perm {L M : List Int} (h : L.Perm M) : cn L = cn M := by
  unfold cn
  rw [srt_eq_iff.mpr h]
/-! ### rules of our own: a dict walked that stands locked from then on; list(d.values()) -/
section
variable {X : Cx} {tg e : Expr} {td te : TE} {p pos apos cpos : Pos}
def tLk (td : TE) : TE := fun σ H Q => td σ H fun x H1 => ∃ d kvs, x = .ref d ∧ H1 d = some (.dK kvs) ∧ ∀ o, Q (.ref d) (upd H1 d (.frz o (.dK kvs)))
theorem pe_lk (he : PE X e td) : PE X e (tLk td) := by
  refine ⟨fun pins s σ H Q I h => ?_⟩
  refine thn (he.run pins s σ H _ I h) fun u s1 ⟨x, H1, I1, rx, d, kvs, ex, hd, q⟩ => ?_
  subst ex
  obtain ⟨od, I2⟩ := I1.lock hd True.intro
  exact ⟨.ref d, _, I2, rx, q od⟩
theorem pi_keysN (he : PE X e td) : PI X tg e (iKeys (tLk td)) := pi_keys (pe_lk he)
theorem pi_itemsN {elts : List Expr} {kk : Nat} {tpos : Pos} (he : PE X e td) (hbase : attributeBase e "items" X.env (eval e X.env) = eval e X.env := by rfl) (hline : (apos.endLine == cpos.line) = true := by rfl) :
    PI X (.Tuple elts kk tpos) (.Call (.Attribute e "items" apos) [] [] cpos) (iItems (tLk td)) := pi_items (pe_lk he) hbase hline
theorem pi_valuesN (he : PE X e td) (hbase : attributeBase e "values" X.env (eval e X.env) = eval e X.env := by rfl) (hline : (apos.endLine == cpos.line) = true := by rfl) :
    PI X tg (.Call (.Attribute e "values" apos) [] [] cpos) (iVals (tLk td)) := pi_values (pe_lk he) hbase hline
def tListVals (te : TE) : TE := fun σ H Q => te σ H fun x H1 => ∃ d kvs, x = .ref d ∧ H1 d = some (.dK kvs) ∧ ∀ p, H1 p = none → Q (.ref p) (upd H1 p (.lst (kvs.map (·.2))))
theorem pe_listVals (hc : X.calm = true) (he : PE X e te) (hg : Gl X "list") (hm : X.mg "list" = none) (hv : bootBuiltins "list" = some (.type "list") := by decide +kernel) (hbase : attributeBase e "values" X.env (eval e X.env) = eval e X.env := by rfl) (hline : (apos.endLine == cpos.line) = true := by rfl)
    (hs : starEach [.Call (.Attribute e "values" apos) [] [] cpos] X.env = (false, eval (.Call (.Attribute e "values" apos) [] [] cpos) X.env) :: starEach [] X.env := by rfl) :
    PE X (.Call (.Name "list" p) [.Call (.Attribute e "values" apos) [] [] cpos] [] pos) (tListVals te) := by
  refine ⟨fun pins s σ H Q I hq => ?_⟩
  refine wpAny_Call_Name_kw (ld_blt I hg hm hv ?_)
  refine PyProof.Rows.callWith_type1 ?_ hs rfl
  rw [hs]
  show wpAny _ _ (spliced ((false, eval (.Call (.Attribute e "values" apos) [] [] cpos) X.env) :: backTo pos (starEach [] X.env))) _ _ s
  refine Calls.spliced_cons ?_
  refine wpAny_Call_method (T := "dict") (id := "dict.values") hbase rfl hline F.plainAttrs_dict F.slot_dict_values F.type_dict_values (thn (he.run pins s σ H _ I hq) fun u s1 ⟨x, H1, I1, rx, d, kvs, ex, hd, q⟩ => ?_)
  subst ex
  obtain rfl : u = Value.ref d := rx
  obtain ⟨hz, hs0, vs, kv, hdo⟩ := I1.hok d _ hd
  obtain ⟨ep, hat⟩ := hdo.dictAt
  have lk : kvs.length = vs.length := Paired.length kv
  have I2 : Inv X pins σ H1 { s1 with heap := s1.heap.push { cls := .type "dict_values", data := .fields #[.ref d] } } := I1.kept (t' := s1.toks) fun b ob q => Heap.get?_push_of_some _ q
  refine ⟨hdo.typeIs, hdo.mapOf.noDict, ?_⟩
  show wpAny _ _ (callWith cpos (.builtin "dict.values") [.ref d] [] []) _ X.xe s1
  refine method_meetsIn F.slot_dict_values F.entry_dict_values rfl (PySem.evalArgs_none ⟨rfl, hdo.typeIs, F.args_dict_values_1 _, _, meets_dict_values (mixKind X.prog X.w) d hs0, ⟨vs, hdo⟩, ?_⟩)
  refine Calls.spliced_nil ?_
  refine PySem.W.kdl_call (PySem.W.kdl_values (knd := mixKind X.prog X.w) (kvs := vs) (ep := ep) (r := s1.heap.objs.size) (d := d)) (I1.ok.hd hc) ⟨⟨_, Heap.get?_push_size _ rfl, rfl, rfl⟩, hat.push _⟩ (by rw [← lk]; exact hz) fun h' tk acc' c' hkeep hS hacc => ?_
  refine ⟨.ref _, upd H1 _ (.lst (kvs.map (·.2))), I2.laid hkeep (Nat.le_refl _) (show ObjOk X.prog X.w _ _ _ (.lst (kvs.map (·.2))) from ⟨?_, acc'.toList, c', ?_, ?_⟩), rfl, q _ (I2.hok.fresh (Nat.le_refl _))⟩
  · rw [List.length_map]; exact hz
  · have el : acc'.toList.length = acc'.size := by simp
    refine vals_of_at (by rw [List.length_map, el, hacc.1, lk]) fun j x w h1 h2 => ?_
    obtain ⟨k, hky⟩ := hacc.2 j w (by rw [← Array.getElem?_toList]; exact h2)
    rw [List.getElem?_map] at h1
    cases e : kvs[j]? with
    | none => rw [e] at h1; cases h1
    | some kx =>
      rw [e] at h1
      obtain rfl : kx.2 = x := Option.some.inj h1
      obtain ⟨u, e2, r⟩ := kv_get kv e
      rw [hky] at e2
      obtain ⟨_, rfl⟩ := Prod.mk.inj (Option.some.inj e2)
      exact r
  · rw [Array.toArray_toList]; exact hS
end
/-! ### a comprehension whose turns leave what stood -/
section
variable {J : It} {G : Hp → Prop} {Y : Nat → Hp → V → Hp → Prop} {α : Type}
theorem lc_pure {L : List α} (F : α → Option V) (w : Walk J L.length G Y) {g : TG} {tt : TT} {te : TE} {vs : List Nat} {σ : L2.St} {H1 : Hp} {D : Addr} {Qd : Hp → Prop} (hD : H1 D = none) (hn : L.length ≤ 100000) (hS : ∀ H H', Same H H' → G H → G H') (hG : G H1)
    (hs : ∀ (i : Nat) (hi : i < L.length) x H H', Same H1 H → G H → Y i H x H' → ∀ (Z : V → Hp → Prop) (Zn : Hp → Prop), (∀ y H4, F L[i] = some y → Same H H4 → Z y H4) → (∀ H3, F L[i] = none → Same H H3 → Zn H3) →
      g x (wipe σ vs) H' fun σ2 H2 => wipe σ2 vs = wipe σ vs ∧ tt σ2 H2 fun b H3 => if b = true then te σ2 H3 Z else Zn H3)
    (hd : ∀ H', Same H1 H' → H' D = some (.lst (L.filterMap F)) → Qd H') :
    ∃ W : Nat → Nat → Hp → Prop, (∃ m, W 0 m (upd H1 D (.lst []))) ∧ ∀ i m H, W i m H →
      (J.stop i H ∧ Qd H) ∨ (J.go i H ∧ ∃ Nx : Hp → Prop, (∀ H', Nx H' → ∃ m', m' < m ∧ W (i + 1) m' H') ∧ ∀ x H', J.yld i H x H' → g x (wipe σ vs) H' fun σ2 H2 => wipe σ2 vs = wipe σ vs ∧ tt σ2 H2 fun b H3 =>
        if b = true then te σ2 H3 fun y H4 => ∃ acc, H4 D = some (.lst acc) ∧ acc.length < sizeLine ∧ Nx (upd H4 D (.lst (acc ++ [y]))) else Nx H3) := by
  have tk : ∀ i (hi : i < L.length), (L.take (i + 1)).filterMap F = (L.take i).filterMap F ++ (match F L[i] with | some y => [y] | none => []) := fun i hi => by
    rw [List.take_add_one, List.getElem?_eq_getElem hi, List.filterMap_append]
    show _ ++ List.filterMap F [L[i]] = _
    cases e : F L[i] <;> simp [e]
  refine lc_it w (fun i H => Same H1 H ∧ G H ∧ H D = some (.lst ((L.take i).filterMap F))) ⟨same_upd hD, hS _ _ (same_upd hD) hG, by rw [upd_same]; rfl⟩ (fun i H _ p => p.2.1) (fun i x H H' hi p y => ?_) (fun H p => hd H p.1 (by have := p.2.2; rw [List.take_length] at this; exact this))
  refine hs i hi x H H' p.1 p.2.1 y _ _ (fun y H4 e s => ?_) (fun H3 e s => ?_)
  · refine ⟨_, s _ _ p.2.2, ?_, sm_put (p.1.trans s) hD, hS _ _ (sm_put (p.1.trans s) hD) hG, ?_⟩
    · refine sz_lt ?_
      have h1 := List.length_filterMap_le F (L.take i)
      have h2 : (L.take i).length ≤ L.length := by rw [List.length_take]; omega
      omega
    · rw [upd_same, tk i hi, e]
  · refine ⟨p.1.trans s, hS _ _ s p.2.1, ?_⟩
    rw [s _ _ p.2.2, tk i hi, e, List.append_nil]
end
/-! ### what a value is -/
def isI : V → Bool
  | .int _ => true
  | .bl _ => true
  | _ => false
def isB : V → Bool
  | .bl _ => true
  | _ => false
def numOk (v : V) (lo hi : Int) : Bool := match v with
  | .int i => decide (lo ≤ i) && decide (i ≤ hi)
  | _ => false
/-- its type is known, and what isinstance says of int and bool -/
def NumTy (K : PySem.W.Frag) (H : Hp) (v : V) : Prop := ∃ t, TyX K H v t ∧ PySem.W.kitOne K t (.type "int") = some (isI v) ∧ PySem.W.kitOne K t (.type "bool") = some (isB v)
theorem numTy_int {K : PySem.W.Frag} {H : Hp} (i : Int) : NumTy K H (.int i) := ⟨_, .base (.int i), kit_ty (r := true) (by decide +kernel), kit_ty (r := false) (by decide +kernel)⟩
theorem numTy_non {K : PySem.W.Frag} {H : Hp} : NumTy K H .non := ⟨_, .base .non, kit_ty (r := false) (by decide +kernel), kit_ty (r := false) (by decide +kernel)⟩
theorem numTy_bl {K : PySem.W.Frag} {H : Hp} (b : Bool) : NumTy K H (.bl b) := ⟨_, .base (.bl b), kit_ty (r := true) (by decide +kernel), kit_ty (r := true) (by decide +kernel)⟩
theorem numTy_str {K : PySem.W.Frag} {H : Hp} (b : Str) : NumTy K H (.str b) := ⟨_, .base (.str b), kit_ty (r := false) (by decide +kernel), kit_ty (r := false) (by decide +kernel)⟩
theorem ty_list {K : PySem.W.Frag} {H : Hp} {a : Addr} {xs : List V} (h : SqL K H a xs) : TyX K H (.ref a) (.type "list") := by
  rcases h with (h | ⟨o, h⟩) | ⟨o, its, n, h, c, _⟩
  · exact .base (.lst h)
  · exact .base (.frz h)
  · exact .kList h c
theorem ty_tup {K : PySem.W.Frag} {H : Hp} {a : Addr} {xs : List V} (h : SqT K H a xs) : TyX K H (.ref a) (.type "tuple") := by
  rcases h with (h | ⟨o, h⟩) | ⟨o, its, n, h, c, _⟩
  · exact .base (.tup h)
  · exact .fTuple h
  · exact .kTuple h c
theorem numTy_list {K : PySem.W.Frag} {H : Hp} {a : Addr} {xs : List V} (h : SqL K H a xs) : NumTy K H (.ref a) := ⟨_, ty_list h, kit_ty (r := false) (by decide +kernel), kit_ty (r := false) (by decide +kernel)⟩
theorem numTy_tup {K : PySem.W.Frag} {H : Hp} {a : Addr} {xs : List V} (h : SqT K H a xs) : NumTy K H (.ref a) := ⟨_, ty_tup h, kit_ty (r := false) (by decide +kernel), kit_ty (r := false) (by decide +kernel)⟩
/-- a heap -/
structure Good (L : List Int) : Prop where
  len : L.length ≤ 100000
  rng : ∀ z ∈ L, 0 ≤ z ∧ z ≤ 999
theorem all_map {α : Type} {f : α → Bool} {l : List α} : (l.map f).all id = l.all f := by rw [List.all_map]; rfl
theorem any_map {α : Type} {f : α → Bool} {l : List α} : (l.map f).any id = l.any f := by rw [List.any_map]; rfl
theorem fm_map {α β : Type} {f : α → β} {l : List α} : l.filterMap (fun x => some (f x)) = l.map f := by
  induction l with
  | nil => rfl
  | cons a r ih => simp
/-! ### xs.extend(t), t a tuple -/
section
variable {X : Cx}
theorem ext_tup (l b : Addr) (items items2 : Array Value) (n : Nat) (hs : items.size + items2.size ≤ sizeLine) :
    Meets (Builtin.«list.extend» ⟨[.ref l, .ref b], []⟩) (fun _ R s => s.heap.get? l = some { cls := .type "list", dict := none, data := .seq items n, slots := #[] } ∧ IsTup s.heap b items2 ∧
      R (.ok (.ret Value.none)) { s with heap := s.heap.update l (Obj.mapSeq fun x => x ++ items2), toks := s.toks }) :=
  .of_wp fun prog w A R s h => by
    obtain ⟨hl, ⟨o, hb, hc, n2, hd⟩, h⟩ := h
    have hz' : (items ++ items2).size ≤ sizeLine + 1 := by rw [Array.size_append]; omega
    show wpAny _ _ (Builtin.List.listExtendWith (.ref l) (.ref b) .none) _ _ _
    unfold Builtin.List.listExtendWith
    refine wpAny_bind (wpAny_typeOf (T := "tuple") ⟨o, hb, hc⟩ ?_)
    have hT : (Builtin.List.listSameRef (.ref l) (.ref b) || Value.type "tuple" == Value.type "list" || Value.type "tuple" == Value.type "tuple") = true := by
      simp
    simp only [hT, if_true]
    unfold Builtin.List.listItems
    refine wpAny_bind (wpAny_bind (wpAny_seqItems hb hd (wpAny_pure ?_)))
    refine wpAny_bind (wpAny_bind (wpAny_seqItems hl rfl (wpAny_pure ?_)))
    have hlong : ¬ (!items.isEmpty && Builtin.List.listTooLong (items.size + items2.size)) = true := by
      rw [notLongL hs, Bool.and_false]
      exact Bool.false_ne_true
    simp only [if_neg hlong]
    refine wpAny_bind ?_
    show wpAny _ _ (updateSeq l (fun x => x ++ items2)) _ _ _
    refine wpAny_updateSeq hl rfl (hz := by omega) (_hz' := hz') ?_
    exact wpAny_pure ⟨_, rfl, h⟩
def rExtendT (K : PySem.W.Frag) : V → List V → Hp → VK → Prop := fun x vs H Q => ∃ l b xs zs, x = .ref l ∧ vs = [.ref b] ∧ H l = some (.lst xs) ∧ SqT K H b zs ∧ xs.length + zs.length ≤ sizeLine ∧ Q .non (upd H l (.lst (xs ++ zs)))
theorem mt_extendT : MtM X "list.extend" (rExtendT X.K) := by
  intro pins s σ H x vs v us Q I rx rv h
  obtain ⟨l, b, xs, zs, rfl, rfl, hH, hB, hz, q⟩ := h
  cases rx
  obtain ⟨u, rfl, ru⟩ := rv.one
  cases ru
  obtain ⟨z, its, n, r, hl, e⟩ := I.lstM hH
  obtain ⟨its2, r2, e2, z2⟩ := I.tuple hB
  have hl2 := r2.length
  refine call_meets F.slot_list_extend ⟨_, e, rfl⟩ F.entry_list_extend (F.args_list_extend_2 _ _)
    (ext_tup l b its.toArray its2.toArray n (by rw [List.size_toArray, List.size_toArray]; omega)) ⟨e, e2, ?_⟩
  refine ⟨.non, _, I.lset (its' := its ++ its2) hH e (by simp) (r.append r2) ?_, rfl, q⟩
  rw [List.length_append]
  omega
end
/-! ### data for == -/
def dI (L : List Int) : PyData := .list (L.map PyData.int)
def dT2 (T : Tab) : PyData := .list (T.map fun p => PyData.tuple [.int p.1, .int p.2])
theorem dpa_li {K : PySem.W.Frag} {H : Hp} : ∀ L : List Int, DpAll K H (LI L) (L.map PyData.int)
  | [] => .nil
  | z :: r => .cons (.int z) (dpa_li r)
theorem dp_li {K : PySem.W.Frag} {H : Hp} {a : Addr} {L : List Int} (h : SqL K H a (LI L)) : Dp K H (.ref a) (dI L) := .lst h (dpa_li L)
/-- the tuples of a table at ts -/
def TupsAt (K : PySem.W.Frag) (H : Hp) (ts : List Addr) (T : Tab) : Prop := Paired (fun (t : Addr) (p : Int × Int) => SqT K H t [.int p.1, .int p.2]) ts T
theorem dpa_t2 {K : PySem.W.Frag} {H : Hp} : ∀ {ts : List Addr} {T : Tab}, TupsAt K H ts T → DpAll K H (ts.map V.ref) (T.map fun p => PyData.tuple [.int p.1, .int p.2])
  | _, _, .nil => .nil
  | _, _, .cons h t => .cons (.tup h (.cons (.int _) (.cons (.int _) .nil))) (dpa_t2 t)
theorem dp_t2 {K : PySem.W.Frag} {H : Hp} {a : Addr} {ts : List Addr} {T : Tab} (h : SqL K H a (ts.map V.ref)) (t : TupsAt K H ts T) : Dp K H (.ref a) (dT2 T) := .lst h (dpa_t2 t)
theorem TupsAt.same {K : PySem.W.Frag} {H H' : Hp} (s : Same H H') : ∀ {ts : List Addr} {T : Tab}, TupsAt K H ts T → TupsAt K H' ts T
  | _, _, .nil => .nil
  | _, _, .cons h t => .cons (sm_tup s h) (TupsAt.same s t)
theorem lay_ints : ∀ L : List Int, PyData.canLayAll0 (L.map PyData.int) = true
  | [] => by simp [PyData.canLayAll0]
  | z :: r => by simp [PyData.canLayAll0, PyData.canLay0, lay_ints r]
theorem lay_t2 : ∀ T : Tab, PyData.canLayAll0 (T.map fun p => PyData.tuple [.int p.1, .int p.2]) = true
  | [] => by simp [PyData.canLayAll0]
  | p :: r => by simp [PyData.canLayAll0, PyData.canLay0, lay_t2 r]
theorem dep_ints : ∀ L : List Int, PyData.depthAll (L.map PyData.int) ≤ 1
  | [] => by simp [PyData.depthAll]
  | z :: r => by
    have := dep_ints r
    simp [PyData.depthAll, PyData.depth]
    omega
theorem dep_t2 : ∀ T : Tab, PyData.depthAll (T.map fun p => PyData.tuple [.int p.1, .int p.2]) ≤ 3
  | [] => by simp [PyData.depthAll]
  | p :: r => by
    have := dep_t2 r
    simp [PyData.depthAll, PyData.depth]
    omega
theorem shaped_dI (L : List Int) : SeqAt.shaped (dI L) = true := by
  have h1 := lay_ints L
  have h2 := dep_ints L
  simp [SeqAt.shaped, dI, PyData.canLay0, PyData.depth, h1]
  omega
theorem shaped_dT2 (T : Tab) : SeqAt.shaped (dT2 T) = true := by
  have h1 := lay_t2 T
  have h2 := dep_t2 T
  simp [SeqAt.shaped, dT2, PyData.canLay0, PyData.depth, h1]
  omega
theorem eqv_ints : ∀ L M : List Int, PyData.eqvAll (L.map PyData.int) (M.map PyData.int) = decide (L = M)
  | [], [] => by simp [PyData.eqvAll]
  | [], _ :: _ => by simp [PyData.eqvAll]
  | _ :: _, [] => by simp [PyData.eqvAll]
  | a :: r, b :: t => by
    simp only [List.map_cons, PyData.eqvAll, PyData.eqv, eqv_ints r t, List.cons.injEq]
    by_cases e : a = b <;> simp [e]
theorem eqv_dI (L M : List Int) : PyData.eqv (dI L) (dI M) = decide (L = M) := by
  simp only [dI, PyData.eqv, eqv_ints]
theorem eqv_t2 : ∀ L M : Tab, PyData.eqvAll (L.map fun p => PyData.tuple [.int p.1, .int p.2]) (M.map fun p => PyData.tuple [.int p.1, .int p.2]) = decide (L = M)
  | [], [] => by simp [PyData.eqvAll]
  | [], _ :: _ => by simp [PyData.eqvAll]
  | _ :: _, [] => by simp [PyData.eqvAll]
  | a :: r, b :: t => by
    obtain ⟨a1, a2⟩ := a
    obtain ⟨b1, b2⟩ := b
    simp only [List.map_cons, PyData.eqvAll, PyData.eqv, eqv_t2 r t, List.cons.injEq, Prod.mk.injEq]
    by_cases e : a1 = b1 <;> by_cases e2 : a2 = b2 <;> simp [e, e2]
theorem eqv_dT2 (L M : Tab) : PyData.eqv (dT2 L) (dT2 M) = decide (L = M) := by
  simp only [dT2, PyData.eqv, eqv_t2]
/-! ### a comprehension whose items are new objects -/
section
variable {J : It} {G : Hp → Prop} {Y : Nat → Hp → V → Hp → Prop} {α : Type}
/-- objects at ts, each as o says of its item -/
def ObjsAt (H : Hp) (o : α → HO) (ts : List Addr) (L : List α) : Prop := Paired (fun (t : Addr) (x : α) => H t = some (o x)) ts L
theorem ObjsAt.same {H H' : Hp} {o : α → HO} (s : Same H H') : ∀ {ts : List Addr} {L : List α}, ObjsAt H o ts L → ObjsAt H' o ts L
  | _, _, .nil => .nil
  | _, _, .cons h t => .cons (s _ _ h) (ObjsAt.same s t)
theorem ObjsAt.snoc {H : Hp} {o : α → HO} {t : Addr} {x : α} (h : H t = some (o x)) : ∀ {ts : List Addr} {L : List α}, ObjsAt H o ts L → ObjsAt H o (ts ++ [t]) (L ++ [x])
  | _, _, .nil => .cons h .nil
  | _, _, .cons k r => .cons k (ObjsAt.snoc h r)
theorem ObjsAt.mem {H : Hp} {o : α → HO} : ∀ {ts : List Addr} {L : List α}, ObjsAt H o ts L → ∀ t ∈ ts, ∃ x ∈ L, H t = some (o x)
  | _, _, .nil, t, h => by cases h
  | _, _, .cons k r, t, h => by
    rcases List.mem_cons.mp h with e | h
    · exact ⟨_, List.mem_cons_self, by rw [e]; exact k⟩
    · obtain ⟨x, h1, h2⟩ := ObjsAt.mem r t h
      exact ⟨x, List.mem_cons_of_mem _ h1, h2⟩
theorem ObjsAt.off {H H' : Hp} {o : α → HO} {ts : List Addr} {L : List α} (a : ObjsAt H o ts L) (h : ∀ t ∈ ts, H' t = H t) : ObjsAt H' o ts L := by
  induction a with
  | nil => exact .nil
  | @cons t x ts L k r ih =>
    refine .cons ?_ (ih fun t ht => h t (List.mem_cons_of_mem _ ht))
    rw [h t List.mem_cons_self]
    exact k
theorem lc_fresh {L : List α} (o : α → HO) (w : Walk J L.length G Y) {g : TG} {tt : TT} {te : TE} {vs : List Nat} {σ : L2.St} {H1 : Hp} {D : Addr} {Qd : Hp → Prop} (hD : H1 D = none) (hn : L.length ≤ 100000) (hS : ∀ H H', Same H H' → G H → G H') (hG : G H1)
    (hs : ∀ (i : Nat) (hi : i < L.length) x H H', Same H1 H → G H → Y i H x H' → ∀ (Z : V → Hp → Prop) (Zn : Hp → Prop), (∀ t H4, H t = none → H4 t = some (o L[i]) → Same H H4 → Z (.ref t) H4) →
      g x (wipe σ vs) H' fun σ2 H2 => wipe σ2 vs = wipe σ vs ∧ tt σ2 H2 fun b H3 => if b = true then te σ2 H3 Z else Zn H3)
    (hd : ∀ H' ts, Same H1 H' → ts.Nodup → (∀ t ∈ ts, H1 t = none) → D ∉ ts → ObjsAt H' o ts L → H' D = some (.lst (ts.map V.ref)) → Qd H') :
    ∃ W : Nat → Nat → Hp → Prop, (∃ m, W 0 m (upd H1 D (.lst []))) ∧ ∀ i m H, W i m H →
      (J.stop i H ∧ Qd H) ∨ (J.go i H ∧ ∃ Nx : Hp → Prop, (∀ H', Nx H' → ∃ m', m' < m ∧ W (i + 1) m' H') ∧ ∀ x H', J.yld i H x H' → g x (wipe σ vs) H' fun σ2 H2 => wipe σ2 vs = wipe σ vs ∧ tt σ2 H2 fun b H3 =>
        if b = true then te σ2 H3 fun y H4 => ∃ acc, H4 D = some (.lst acc) ∧ acc.length < sizeLine ∧ Nx (upd H4 D (.lst (acc ++ [y]))) else Nx H3) := by
  refine lc_it w (fun i H => Same H1 H ∧ G H ∧ ∃ ts : List Addr, ts.length = i ∧ ts.Nodup ∧ (∀ t ∈ ts, H1 t = none) ∧ D ∉ ts ∧ ObjsAt H o ts (L.take i) ∧ H D = some (.lst (ts.map V.ref)))
    ⟨same_upd hD, hS _ _ (same_upd hD) hG, [], rfl, List.nodup_nil, (fun t h => by cases h), (fun h => by cases h), .nil, by rw [upd_same]; rfl⟩ (fun i H _ p => p.2.1) (fun i x H H' hi p y => ?_) (fun H p => ?_)
  · obtain ⟨s1, g1, ts, hl, nd, hf, dn, oa, hDl⟩ := p
    refine hs i hi x H H' s1 g1 y _ _ fun t H4 e1 e2 s => ?_
    have tD : t ≠ D := fun z => by rw [z, hDl] at e1; cases e1
    have tN : t ∉ ts := fun z => by
      obtain ⟨x, _, h⟩ := oa.mem t z
      rw [e1] at h
      cases h
    refine ⟨_, s _ _ hDl, sz_lt (by rw [List.length_map]; omega), sm_put (s1.trans s) hD, hS _ _ (sm_put (s1.trans s) hD) hG, ts ++ [t], by rw [List.length_append, hl]; rfl, ?_, ?_, ?_, ?_, ?_⟩
    · refine List.nodup_append.mpr ⟨nd, by simp, fun a ha b hb z => tN ?_⟩
      rw [List.mem_singleton.mp hb] at z
      rw [← z]
      exact ha
    · intro u hu
      rcases List.mem_append.mp hu with h | h
      · exact hf u h
      · rw [List.mem_singleton.mp h]
        exact s1.free e1
    · intro h
      rcases List.mem_append.mp h with h | h
      · exact dn h
      · exact tD (List.mem_singleton.mp h).symm
    · rw [List.take_add_one, List.getElem?_eq_getElem hi]
      have a1 : ObjsAt (upd H4 D (.lst (ts.map V.ref ++ [.ref t]))) o ts (L.take i) := (oa.same s).off fun u hu => upd_ne fun z => dn (by rw [← z]; exact hu)
      exact a1.snoc (by rw [upd_ne tD]; exact e2)
    · rw [upd_same]
      simp
  · obtain ⟨s1, g1, ts, hl, nd, hf, dn, oa, hDl⟩ := p
    rw [List.take_length] at oa
    exact hd H ts s1 nd hf dn oa hDl
end
/-! ### the greatest of some numbers and nought -/
def mx : List Int → Int
  | [] => 0
  | a :: r => max a (mx r)
theorem mx_nn (l : List Int) : 0 ≤ mx l := by
  induction l with
  | nil => exact Int.le_refl 0
  | cons a r ih => simp only [mx]; omega
theorem mx_le {l : List Int} {y : Int} (h : y ∈ l) : y ≤ mx l := by
  induction l with
  | nil => cases h
  | cons a r ih =>
    simp only [mx]
    rcases List.mem_cons.mp h with e | h
    · omega
    · have := ih h
      omega
theorem mx_mem (l : List Int) : mx l = 0 ∨ mx l ∈ l := by
  induction l with
  | nil => exact .inl rfl
  | cons a r ih =>
    simp only [mx]
    by_cases h : mx r ≤ a
    · rw [show max a (mx r) = a by omega]
      exact .inr List.mem_cons_self
    · rw [show max a (mx r) = mx r by omega]
      rcases ih with e | e
      · exact .inl e
      · exact .inr (List.mem_cons_of_mem _ e)
theorem mx_eq {l : List Int} {m : Int} (h0 : m = 0 ∨ m ∈ l) (hn : 0 ≤ m) (h : ∀ y ∈ l, y ≤ m) : m = mx l := by
  have h1 : m ≤ mx l := by
    rcases h0 with e | e
    · rw [e]; exact mx_nn l
    · exact mx_le e
  rcases mx_mem l with e | e
  · have := mx_nn l
    omega
  · have := h _ e
    omega
theorem mx_perm {l m : List Int} (h : l.Perm m) : mx l = mx m :=
  mx_eq (by rcases mx_mem l with e | e; exact .inl e; exact .inr (h.mem_iff.mp e)) (mx_nn l) fun y hy => mx_le (h.mem_iff.mpr hy)
/-- how many there are of the commonest kind -/
def mostI (L : List Int) : Int := mx ((cn L).map (·.2))
theorem mostI_tally (L : List Int) : mx ((tally L).map (·.2)) = mostI L := mx_perm ((cn_perm L).symm.map _)
theorem mostI_perm {L M : List Int} (h : L.Perm M) : mostI L = mostI M := by unfold mostI; rw [cn_of_perm h]
/-- the commonest kinds -/
def cmn (L : List Int) : List Int := ((cn L).filter fun p => decide (p.2 = mostI L)).map (·.1)
theorem cmn_perm {L M : List Int} (h : L.Perm M) : cmn L = cmn M := by unfold cmn; rw [cn_of_perm h, mostI_perm h]
theorem objs_of_items {H : Hp} {ts : List Addr} : ∀ {T : Tab} {ts : List Addr}, Paired (fun (t : Addr) (q : Key × V) => H t = some (.tup [kV q.1, q.2])) ts (dk T) → ObjsAt H (fun p : Int × Int => .tup [.int p.1, .int p.2]) ts T
  | [], _, .nil => .nil
  | p :: r, _, .cons h t => .cons h (objs_of_items (ts := ts) (T := r) t)
theorem tups_of_objs {K : PySem.W.Frag} {H : Hp} : ∀ {ts : List Addr} {T : Tab}, ObjsAt H (fun p : Int × Int => .tup [.int p.1, .int p.2]) ts T → TupsAt K H ts T
  | _, _, .nil => .nil
  | _, _, .cons h t => .cons (SqT.of h) (tups_of_objs t)
theorem dk_get {T : Tab} {i : Nat} (h : i < T.length) : (dk T)[i]? = some (Sum.inl T[i].1, V.int T[i].2) := by
  unfold dk
  rw [List.getElem?_map, List.getElem?_eq_getElem h]
  rfl
theorem fm_filter {L : Tab} {m : Int} : L.filterMap (fun p => if p.2 = m then some (V.int p.1) else none) = LI ((L.filter fun p => decide (p.2 = m)).map (·.1)) := by
  induction L with
  | nil => rfl
  | cons p r ih =>
    by_cases e : p.2 = m
    · simp [e, ih]
    · simp [e, ih]
theorem dk_vals (T : Tab) : (dk T).map (·.2) = LI (T.map (·.2)) := by
  unfold dk
  rw [List.map_map, LI, List.map_map]
  rfl
theorem dk_item {T : Tab} {i : Nat} (h : i < T.length) {k v : V} (hk : ((dk T)[i]?).map (fun kv => kV kv.1) = some k) (hv : ((dk T)[i]?).map Prod.snd = some v) : k = .int T[i].1 ∧ v = .int T[i].2 := by
  rw [dk_get h] at hk hv
  exact ⟨(Option.some.inj hk).symm, (Option.some.inj hv).symm⟩
theorem paired_len {α β : Type} {F : α → β → Prop} : ∀ {l : List α} {m : List β}, Paired F l m → l.length = m.length
  | _, _, .nil => rfl
  | _, _, .cons _ t => congrArg (· + 1) (paired_len t)
theorem paired_at {α β : Type} {F : α → β → Prop} : ∀ {l : List α} {m : List β}, Paired F l m → ∀ (i : Nat) (h1 : i < l.length) (h2 : i < m.length), F l[i] m[i]
  | _, _, .nil, i, h, _ => absurd h (Nat.not_lt_zero i)
  | _, _, .cons h t, 0, _, _ => h
  | _, _, .cons h t, i + 1, h1, h2 => paired_at t i (Nat.lt_of_succ_lt_succ h1) (Nat.lt_of_succ_lt_succ h2)
theorem refs_inv {ts : List Addr} {i : Nat} {x : V} (h : (ts.map V.ref)[i]? = some x) : ∃ hi : i < ts.length, x = .ref ts[i] := by
  rw [List.getElem?_map] at h
  cases e : ts[i]? with
  | none => rw [e] at h; cases h
  | some t =>
    rw [e] at h
    obtain ⟨hi, e2⟩ := List.getElem?_eq_some_iff.mp e
    exact ⟨hi, by rw [e2]; exact (Option.some.inj h).symm⟩
theorem tups_at {K : PySem.W.Frag} {H : Hp} {ts : List Addr} {T : Tab} (h : TupsAt K H ts T) {i : Nat} (hi : i < T.length) {x : V} (hx : (ts.map V.ref)[i]? = some x) : ∃ t, x = .ref t ∧ SqT K H t [.int T[i].1, .int T[i].2] := by
  obtain ⟨h1, rfl⟩ := refs_inv hx
  exact ⟨_, rfl, paired_at h i h1 hi⟩
theorem cn_keys_map (L : List Int) : ((cn L).map (·.1)).map (fun k => (k, (L.count k : Int))) = cn L := by
  rw [List.map_map]
  conv => rhs; rw [← List.map_id (cn L)]
  refine List.map_congr_left fun p hp => ?_
  have := (mem_cn.mp hp).2
  show (p.1, (L.count p.1 : Int)) = p
  rw [← this]
theorem tups_of_map {K : PySem.W.Frag} {H : Hp} {f : Int → Int} : ∀ {ts : List Addr} {ks : List Int}, ObjsAt H (fun k : Int => .tup [.int k, .int (f k)]) ts ks → TupsAt K H ts (ks.map fun k => (k, f k))
  | _, _, .nil => .nil
  | _, _, .cons h t => .cons (SqT.of h) (tups_of_map t)
theorem keys_sorted_eq {L ys : List Int} (p : ys.Perm ((tally L).map (·.1))) (s : ys.Pairwise (· ≤ ·)) : ys = (cn L).map (·.1) :=
  List.Perm.eq_of_pairwise (le := fun a b : Int => a ≤ b) (fun a b _ _ h1 h2 => Int.le_antisymm h1 h2) s ((cn_rise L).imp fun h => by omega) (p.trans ((cn_perm L).symm.map _))
theorem cmn_len (L : List Int) : (cmn L).length ≤ L.length := by
  unfold cmn
  rw [List.length_map]
  have := List.length_filter_le (fun p : Int × Int => decide (p.2 = mostI L)) (cn L)
  have := cn_len L
  omega
theorem Good.perm {L M : List Int} (g : Good L) (h : M.Perm L) : Good M := ⟨by rw [h.length_eq]; exact g.len, fun z hz => g.rng z (h.mem_iff.mp hz)⟩
theorem good_nil : Good [] := ⟨Nat.zero_le _, fun z h => by cases h⟩
/-! ### the layer's rules with the written part named (for a comprehension's block) -/
section
variable {X : Cx} {e o a b : Expr} {es : List Expr} {ta tb te to : TE} {t : TA} {f : Str} {pos apos cpos p1 p2 p3 : Pos} {name : Str} {T id : String} {r : V → List V → Hp → VK → Prop}
theorem zisi (K : PySem.W.Frag) (h : X.K = K := by rfl) : CallR X (.builtin "isinstance") (rIsi K) := by subst h; exact call_isi
def rLenS (K : PySem.W.Frag) : List V → Hp → VK → Prop := fun xs H Q => ∃ p ys, xs = [.ref p] ∧ (SqL K H p ys ∨ SqT K H p ys) ∧ Q (.int ys.length) H
theorem zlen (K : PySem.W.Frag) (h : X.K = K := by rfl) : CallR X (.builtin "len") (rLenS K) := by subst h; exact call_len_seq
def rListS (K : PySem.W.Frag) : List V → Hp → VK → Prop := fun xs H Q => ∃ p ys, xs = [.ref p] ∧ (SqL K H p ys ∨ SqT K H p ys) ∧ ∀ l, H l = none → Q (.ref l) (upd H l (.lst ys))
theorem zlist (K : PySem.W.Frag) (h : X.K = K := by rfl) : CallR X (.type "list") (rListS K) := by subst h; exact call_list_of
theorem zixL (K : PySem.W.Frag) (h : X.K = K := by rfl) : IxR X (rIxL K) := by subst h; exact ix_list
theorem zixT (K : PySem.W.Frag) (h : X.K = K := by rfl) : IxR X (rIxT K) := by subst h; exact ix_tup
theorem zslL (K : PySem.W.Frag) (h : X.K = K := by rfl) : SlR X (rSlL K) := by subst h; exact sl_list
theorem zin (K : PySem.W.Frag) (h : X.K = K := by rfl) : OpR X (compareOp .In) (rIn K false) := by subst h; exact op_in_seq
theorem znin (K : PySem.W.Frag) (h : X.K = K := by rfl) : OpR X (compareOp .NotIn) (rIn K true) := by subst h; exact op_notIn_seq
theorem zall (K : PySem.W.Frag) (hc : X.calm = true := by rfl) (h : X.K = K := by rfl) : CallR X (.builtin "all") (rAll K) := by subst h; exact cr_all hc
theorem zany (K : PySem.W.Frag) (hc : X.calm = true := by rfl) (h : X.K = K := by rfl) : CallR X (.builtin "any") (rAny K) := by subst h; exact cr_any hc
theorem zsum (K : PySem.W.Frag) (hc : X.calm = true := by rfl) (h : X.K = K := by rfl) : CallR X (.builtin "sum") (rSum K) := by subst h; exact cr_sum hc
theorem zmax (K : PySem.W.Frag) (hc : X.calm = true := by rfl) (h : X.K = K := by rfl) : CallR X (.builtin "max") (rMax K) := by subst h; exact cr_max hc
theorem zmin (K : PySem.W.Frag) (hc : X.calm = true := by rfl) (h : X.K = K := by rfl) : CallR X (.builtin "min") (rMin K) := by subst h; exact cr_min hc
theorem zsorted (K : PySem.W.Frag) (h : X.K = K := by rfl) : CallR X (.builtin "sorted") (rSortedI K) := by subst h; exact cr_sortedI
theorem zeqD (K : PySem.W.Frag) (hu : X.A.units + 64 < cLine) (h : X.K = K := by rfl) : OpR X (compareOp .Eq) (rEqD K) := by subst h; exact op_eqD hu
theorem zneD (K : PySem.W.Frag) (hu : X.A.units + 64 < cLine) (h : X.K = K := by rfl) : OpR X (compareOp .NotEq) (rNeD K) := by subst h; exact op_neD hu
theorem zextT (K : PySem.W.Frag) (h : X.K = K := by rfl) : MtM X "list.extend" (rExtendT K) := by subst h; exact mt_extendT
theorem zfld (K : PySem.W.Frag) (he : PE X e ta) (hb : attributeBase e f X.env (eval e X.env) = eval e X.env) (h : X.K = K := by rfl) : PE X (.Attribute e f pos) (tFld K ta f) := by subst h; exact pe_fld he hb
theorem zrevL (K : PySem.W.Frag) {k : Nat} (he : PE X e te) (h : X.K = K := by rfl) : PE X (.Subscript e (.Slice none none (some (.UnaryOp .USub (.Constant (.int 1) k p1) p2)) p3) pos) (tRevL K te) := by subst h; exact pe_revL he
theorem zbm0 (K : PySem.W.Frag) (pa : PlainAttrs T) (slot : Slot T name id) (hty : typeOf (.builtin id) = pure (.type "method_descriptor")) (hm : MtR X id r) (ho : PE X o to)
    (hbase : attributeBase o name X.env (eval o X.env) = eval o X.env := by rfl) (hline : (apos.endLine == cpos.line) = true := by rfl) (h : X.K = K := by rfl) : PE X (.Call (.Attribute o name apos) [] [] cpos) (tBM0 K T r to) := by
  subst h
  exact pe_bm0 pa slot hty hm ho hbase hline
theorem zmt {pl : Sem Bool} (K : PySem.W.Frag) {CX : CXT} {k : Nat} {C m : Str} {ps : List Str} {sp : Sp} {E : XK} (h : X.K = K) (M : MetOk X.prog X.w X.K X.mg X.base CX k C m ps sp) (hr : Room k X.A) (hx : Passes CX X E) (he : PE X o ta) (ha : PA X (e :: es) t)
    (hst : starEach (e :: es) X.env = (false, eval e X.env) :: starEach es X.env := by rfl) (hpl : (backTo pos (starEach es X.env)).any (·.1) = false := by rfl)
    (ht : eval (.Call (.Attribute o m apos) (e :: es) [] pos) X.env = (do
      let ov ← eval o X.env
      standAt apos.atName
      let (f, first) ← holding [ov] (getMethod ov m pl)
      callWith pos f first (backTo pos (starEach (e :: es) X.env)) (backToKw pos (keywordEach [] X.env))) := by rfl) :
    PE X (.Call (.Attribute o m apos) (e :: es) [] pos) (tMeth (He.ga K C) m sp [] E ta t) := by
  subst h
  exact pe_mt M hr hx he ha hst hpl ht
theorem zmk (K : PySem.W.Frag) {CX : CXT} {k : Nat} {C : Str} {ps : List Str} {sp : Sp} {E : XK} (h : X.K = K) (M : MakOk X.prog X.w X.K X.mg X.base CX k C ps sp) (hr : Room (k + 1) X.A) (hg : Gl X C) (hx : Passes CX X E) (ha : PA X (e :: es) t) (hdb : (C == ("__debug__" : Str)) = false := by decide)
    (he : starEach (e :: es) X.env = (false, eval e X.env) :: starEach es X.env := by rfl) (hpl : (backTo cpos (starEach es X.env)).any (·.1) = false := by rfl) : PE X (.Call (.Name C pos) (e :: es) [] cpos) (tMake (He.ga K C) sp [] E t) := by
  subst h
  exact pe_mk M hr hg hx ha hdb he hpl
end
/-! ### the text -/
def topS (i : Nat) : Stmt := PySem.Challenge.pw_apartrow_k06_counts.main.body.getD i (.Pass ⟨0, 0, 0, 0⟩)
abbrev s_is_number : Stmt := topS 6
abbrev N_is_number : List Str := ["thing", "low", "high"]
theorem sc_is_number : FnScope N_is_number ["thing", "low", "high"] (defScope s_is_number) := ⟨rfl, rfl, rfl, by decide +kernel, rfl, by decide +kernel, by decide +kernel⟩
abbrev s_check_heap : Stmt := topS 7
abbrev N_check_heap : List Str := ["heap", "kind"]
theorem sc_check_heap : FnScope N_check_heap ["heap"] (defScope s_check_heap) := ⟨rfl, rfl, rfl, by decide +kernel, rfl, by decide +kernel, by decide +kernel⟩
abbrev s_counts_of : Stmt := topS 8
abbrev N_counts_of : List Str := ["heap", "found", "kind"]
theorem sc_counts_of : FnScope N_counts_of ["heap"] (defScope s_counts_of) := ⟨rfl, rfl, rfl, by decide +kernel, rfl, by decide +kernel, by decide +kernel⟩
abbrev s_counts : Stmt := topS 9
abbrev N_counts : List Str := ["heap"]
theorem sc_counts : FnScope N_counts ["heap"] (defScope s_counts) := ⟨rfl, rfl, rfl, by decide +kernel, rfl, by decide +kernel, by decide +kernel⟩
abbrev s_commonest : Stmt := topS 10
abbrev N_commonest : List Str := ["heap", "many", "most", "kind"]
theorem sc_commonest : FnScope N_commonest ["heap"] (defScope s_commonest) := ⟨rfl, rfl, rfl, by decide +kernel, rfl, by decide +kernel, by decide +kernel⟩
abbrev s__law_cell_at : Stmt := topS 12
abbrev N__law_cell_at : List Str := ["_law_script", "_law_k"]
theorem sc__law_cell_at : FnScope N__law_cell_at ["_law_script", "_law_k"] (defScope s__law_cell_at) := ⟨rfl, rfl, rfl, by decide +kernel, rfl, by decide +kernel, by decide +kernel⟩
abbrev s__law_draw : Stmt := topS 13
abbrev N__law_draw : List Str := ["_law_cell", "_law_k", "_law_many_here", "_law_primes"]
theorem sc__law_draw : FnScope N__law_draw ["_law_cell", "_law_k", "_law_many_here"] (defScope s__law_draw) := ⟨rfl, rfl, rfl, by decide +kernel, rfl, by decide +kernel, by decide +kernel⟩
abbrev s__law_heap : Stmt := topS 14
abbrev N__law_heap : List Str := ["_law_script", "_law_few", "_law_lean", "_law_heap_here", "_law_k", "_law_kind"]
theorem sc__law_heap : FnScope N__law_heap ["_law_script"] (defScope s__law_heap) := ⟨rfl, rfl, rfl, by decide +kernel, rfl, by decide +kernel, by decide +kernel⟩
abbrev s__law_many : Stmt := topS 15
abbrev N__law_many : List Str := ["_law_heap_here", "_law_found", "_law_kind"]
theorem sc__law_many : FnScope N__law_many ["_law_heap_here"] (defScope s__law_many) := ⟨rfl, rfl, rfl, by decide +kernel, rfl, by decide +kernel, by decide +kernel⟩
abbrev s__law_most : Stmt := topS 16
abbrev N__law_most : List Str := ["_law_heap_here", "_law_kind", "_law_many_here"]
theorem sc__law_most : FnScope N__law_most ["_law_heap_here"] (defScope s__law_most) := ⟨rfl, rfl, rfl, by decide +kernel, rfl, by decide +kernel, by decide +kernel⟩
abbrev s__law_numbers : Stmt := topS 17
abbrev N__law_numbers : List Str := ["_law_found", "_law_one"]
theorem sc__law_numbers : FnScope N__law_numbers ["_law_found"] (defScope s__law_numbers) := ⟨rfl, rfl, rfl, by decide +kernel, rfl, by decide +kernel, by decide +kernel⟩
abbrev s_law : Stmt := topS 18
abbrev N_law : List Str := ["_law_script", "_law_heap_here", "_law_many_here", "_law_due", "_law_most_here", "_law_some", "_law_handed", "_law_found", "_law_pair", "_law_flat", "_law_kind", "_law_count"]
theorem sc_law : FnScope N_law ["_law_script"] (defScope s_law) := ⟨rfl, rfl, rfl, by decide +kernel, rfl, by decide +kernel, by decide +kernel⟩
/-! ### the facts of the top -/
def fa0 : List He.Fa := [.free "isinstance",
  .free "int",
  .free "bool",
  .free "list",
  .free "len",
  .free "all",
  .free "sorted",
  .free "max",
  .free "range",
  .free "any",
  .free "tuple",
  .glo "is_number",
  .glo "check_heap",
  .glo "counts_of",
  .glo "counts",
  .glo "commonest",
  .glo "_law_cell_at",
  .glo "_law_draw",
  .glo "_law_heap",
  .glo "_law_many",
  .glo "_law_most",
  .glo "_law_numbers",
  .glo "law",
  .glo "HeapError",
  .glo "BadHeap",
  .int "GREATEST" 999,
  .int "THINGS" 1000000,
  .exc "HeapError",
  .exc "BadHeap"]
def fa : List He.Fa := fa0
def fn0 : List He.DefD := [⟨("is_number", none), "is_number", "is_number", defArgs s_is_number, defBody s_is_number, defScope s_is_number, [], []⟩,
  ⟨("check_heap", none), "check_heap", "check_heap", defArgs s_check_heap, defBody s_check_heap, defScope s_check_heap, [], []⟩,
  ⟨("counts_of", none), "counts_of", "counts_of", defArgs s_counts_of, defBody s_counts_of, defScope s_counts_of, [], []⟩,
  ⟨("counts", none), "counts", "counts", defArgs s_counts, defBody s_counts, defScope s_counts, [], []⟩,
  ⟨("commonest", none), "commonest", "commonest", defArgs s_commonest, defBody s_commonest, defScope s_commonest, [], []⟩,
  ⟨("_law_cell_at", none), "_law_cell_at", "_law_cell_at", defArgs s__law_cell_at, defBody s__law_cell_at, defScope s__law_cell_at, [], []⟩,
  ⟨("_law_draw", none), "_law_draw", "_law_draw", defArgs s__law_draw, defBody s__law_draw, defScope s__law_draw, [], []⟩,
  ⟨("_law_heap", none), "_law_heap", "_law_heap", defArgs s__law_heap, defBody s__law_heap, defScope s__law_heap, [], []⟩,
  ⟨("_law_many", none), "_law_many", "_law_many", defArgs s__law_many, defBody s__law_many, defScope s__law_many, [], []⟩,
  ⟨("_law_most", none), "_law_most", "_law_most", defArgs s__law_most, defBody s__law_most, defScope s__law_most, [], []⟩,
  ⟨("_law_numbers", none), "_law_numbers", "_law_numbers", defArgs s__law_numbers, defBody s__law_numbers, defScope s__law_numbers, [], []⟩,
  ⟨("law", none), "law", "law", defArgs s_law, defBody s_law, defScope s_law, [], []⟩]
def fn : List He.DefD := fn0
def tf : List He.Defn := []
def exB (K : PySem.W.Frag) : Bool := true
abbrev Tp (K : PySem.W.Frag) (mg : Str → Option Value) (base : Heap) : Prop := Top fa fn exB tf K mg base
section
variable {P : Program} {w : World} {K : PySem.W.Frag} {mg : Str → Option Value} {base : Heap}

theorem n_isinstance (T : Tp K mg base) : mg "isinstance" = none := T.free 0
theorem n_int (T : Tp K mg base) : mg "int" = none := T.free 1
theorem n_bool (T : Tp K mg base) : mg "bool" = none := T.free 2
theorem n_list (T : Tp K mg base) : mg "list" = none := T.free 3
theorem n_len (T : Tp K mg base) : mg "len" = none := T.free 4
theorem n_all (T : Tp K mg base) : mg "all" = none := T.free 5
theorem n_sorted (T : Tp K mg base) : mg "sorted" = none := T.free 6
theorem n_max (T : Tp K mg base) : mg "max" = none := T.free 7
theorem n_range (T : Tp K mg base) : mg "range" = none := T.free 8
theorem n_any (T : Tp K mg base) : mg "any" = none := T.free 9
theorem n_tuple (T : Tp K mg base) : mg "tuple" = none := T.free 10
theorem g_is_number (T : Tp K mg base) : mg "is_number" = some (.ref (He.ga K "is_number")) := T.glo 11
theorem g_check_heap (T : Tp K mg base) : mg "check_heap" = some (.ref (He.ga K "check_heap")) := T.glo 12
theorem g_counts_of (T : Tp K mg base) : mg "counts_of" = some (.ref (He.ga K "counts_of")) := T.glo 13
theorem g_counts (T : Tp K mg base) : mg "counts" = some (.ref (He.ga K "counts")) := T.glo 14
theorem g_commonest (T : Tp K mg base) : mg "commonest" = some (.ref (He.ga K "commonest")) := T.glo 15
theorem g__law_cell_at (T : Tp K mg base) : mg "_law_cell_at" = some (.ref (He.ga K "_law_cell_at")) := T.glo 16
theorem g__law_draw (T : Tp K mg base) : mg "_law_draw" = some (.ref (He.ga K "_law_draw")) := T.glo 17
theorem g__law_heap (T : Tp K mg base) : mg "_law_heap" = some (.ref (He.ga K "_law_heap")) := T.glo 18
theorem g__law_many (T : Tp K mg base) : mg "_law_many" = some (.ref (He.ga K "_law_many")) := T.glo 19
theorem g__law_most (T : Tp K mg base) : mg "_law_most" = some (.ref (He.ga K "_law_most")) := T.glo 20
theorem g__law_numbers (T : Tp K mg base) : mg "_law_numbers" = some (.ref (He.ga K "_law_numbers")) := T.glo 21
theorem g_law (T : Tp K mg base) : mg "law" = some (.ref (He.ga K "law")) := T.glo 22
theorem g_HeapError (T : Tp K mg base) : mg "HeapError" = some (.ref (He.ga K "HeapError")) := T.glo 23
theorem g_BadHeap (T : Tp K mg base) : mg "BadHeap" = some (.ref (He.ga K "BadHeap")) := T.glo 24
theorem c_GREATEST (T : Tp K mg base) : ∃ t, mg "GREATEST" = some (.int 999 t) := T.int 25
theorem c_THINGS (T : Tp K mg base) : ∃ t, mg "THINGS" = some (.int 1000000 t) := T.int 26
theorem ex_HeapError (T : Tp K mg base) : ExcC K "HeapError" := He.exc_ok (T.d.fact 27 rfl)
theorem ex_BadHeap (T : Tp K mg base) : ExcC K "BadHeap" := He.exc_ok (T.d.fact 28 rfl)
theorem d_is_number (T : Tp K mg base) : ∃ fd, FunD K "is_number" "is_number" (defArgs s_is_number) (defBody s_is_number) (defScope s_is_number) [] [] (He.fAd K ("is_number", none)) fd := T.d.def_ 0 rfl
theorem d_check_heap (T : Tp K mg base) : ∃ fd, FunD K "check_heap" "check_heap" (defArgs s_check_heap) (defBody s_check_heap) (defScope s_check_heap) [] [] (He.fAd K ("check_heap", none)) fd := T.d.def_ 1 rfl
theorem d_counts_of (T : Tp K mg base) : ∃ fd, FunD K "counts_of" "counts_of" (defArgs s_counts_of) (defBody s_counts_of) (defScope s_counts_of) [] [] (He.fAd K ("counts_of", none)) fd := T.d.def_ 2 rfl
theorem d_counts (T : Tp K mg base) : ∃ fd, FunD K "counts" "counts" (defArgs s_counts) (defBody s_counts) (defScope s_counts) [] [] (He.fAd K ("counts", none)) fd := T.d.def_ 3 rfl
theorem d_commonest (T : Tp K mg base) : ∃ fd, FunD K "commonest" "commonest" (defArgs s_commonest) (defBody s_commonest) (defScope s_commonest) [] [] (He.fAd K ("commonest", none)) fd := T.d.def_ 4 rfl
theorem d__law_cell_at (T : Tp K mg base) : ∃ fd, FunD K "_law_cell_at" "_law_cell_at" (defArgs s__law_cell_at) (defBody s__law_cell_at) (defScope s__law_cell_at) [] [] (He.fAd K ("_law_cell_at", none)) fd := T.d.def_ 5 rfl
theorem d__law_draw (T : Tp K mg base) : ∃ fd, FunD K "_law_draw" "_law_draw" (defArgs s__law_draw) (defBody s__law_draw) (defScope s__law_draw) [] [] (He.fAd K ("_law_draw", none)) fd := T.d.def_ 6 rfl
theorem d__law_heap (T : Tp K mg base) : ∃ fd, FunD K "_law_heap" "_law_heap" (defArgs s__law_heap) (defBody s__law_heap) (defScope s__law_heap) [] [] (He.fAd K ("_law_heap", none)) fd := T.d.def_ 7 rfl
theorem d__law_many (T : Tp K mg base) : ∃ fd, FunD K "_law_many" "_law_many" (defArgs s__law_many) (defBody s__law_many) (defScope s__law_many) [] [] (He.fAd K ("_law_many", none)) fd := T.d.def_ 8 rfl
theorem d__law_most (T : Tp K mg base) : ∃ fd, FunD K "_law_most" "_law_most" (defArgs s__law_most) (defBody s__law_most) (defScope s__law_most) [] [] (He.fAd K ("_law_most", none)) fd := T.d.def_ 9 rfl
theorem d__law_numbers (T : Tp K mg base) : ∃ fd, FunD K "_law_numbers" "_law_numbers" (defArgs s__law_numbers) (defBody s__law_numbers) (defScope s__law_numbers) [] [] (He.fAd K ("_law_numbers", none)) fd := T.d.def_ 10 rfl
theorem d_law (T : Tp K mg base) : ∃ fd, FunD K "law" "law" (defArgs s_law) (defBody s_law) (defScope s_law) [] [] (He.fAd K ("law", none)) fd := T.d.def_ 11 rfl
end
section
variable {P : Program} {w : World} {K : PySem.W.Frag} {mg : Str → Option Value} {base : Heap}
def sp__law_draw (K : PySem.W.Frag) : Sp := sp3 fun x y z H Q _ => ∃ c k m, x = .int c ∧ y = .int k ∧ z = .int m ∧ 0 ≤ k ∧ 0 < m ∧ ∀ H', Same H H' → Q (.int (draw c k m)) H'
theorem k__law_draw (T : Tp K mg base) : DefOk P w K mg base CX0 1 "_law_draw" ["_law_cell", "_law_k", "_law_many_here"] (sp__law_draw K) := by
  obtain ⟨fd, F⟩ := d__law_draw T
  refine ⟨fd, F.ok sc__law_draw len3 (fun cdv A outer s H vs Q E hr h => ?_), (F.bindsN fun _ _ _ _ _ _ us hl => match us, hl with | [_, _, _], _ => rfl), F.kp, g__law_draw T⟩
  refine ⟨_, PSs.nox (pss_cons (ps_set (i := 3) sc__law_draw.nd rfl (Or.inl rfl) (pe_tup (pa_cons pe_int (pa_cons pe_int (pa_cons pe_int (pa_cons pe_int (pa_cons pe_int (pa_cons pe_int (pa_cons pe_int (pa_cons pe_int (pa_cons pe_int (pa_cons pe_int (pa_cons pe_int (pa_cons pe_int (pa_cons pe_int (pa_cons pe_int (pa_cons pe_int (pa_cons pe_int pa_nil))))))))))))))))))
      (pss_one (ps_ret (pe_op op_mod (pe_op op_mod (pe_op op_add (pe_op op_mul (pv 0) pe_int) (pe_op op_mul (pv 1) pe_int)) (pe_ix (zixT K) (pv 3) (pe_op op_mod (pv 1) pe_int) (fun _ _ => rfl))) (pv 2))))), ?_⟩
  obtain ⟨_, _, _, rfl, c, k, m, rfl, rfl, rfl, h0, h1, q⟩ := h
  refine ⟨by show 16 ≤ sizeLine; decide, fun p np => ?_⟩
  have hk : (k % 16).toNat < 16 := by omega
  have hi : 0 ≤ k % 16 := by omega
  refine ⟨.int c, rfl, _, _, rfl, rfl, .inr ⟨by decide, by decide⟩, .int k, rfl, _, _, rfl, rfl, .inr ⟨by decide, by decide⟩, _, _, rfl, rfl, .ref p, rfl, .int k, rfl, _, _, rfl, rfl, (by show (0 : Int) < 16; decide), p, LI primes, k % 16, .int (primes.getD (k % 16).toNat 1), rfl, rfl, SqT.of upd_same, ?_, _, _, rfl, rfl, ?_, .int m, rfl, _, _, rfl, rfl, h1, ?_⟩
  · refine at_of (j := (k % 16).toNat) (by omega) ?_
    rw [List.getElem?_map, List.getD_eq_getElem?_getD]
    rw [List.getElem?_eq_getElem (show (k % 16).toNat < primes.length from hk)]
    rfl
  · generalize (k % 16).toNat = j at hk
    have : ∀ j : Fin 16, 0 < primes.getD j.val 1 := by decide
    exact this ⟨j, hk⟩
  · exact q _ (same_upd np)
def sp__law_cell_at (K : PySem.W.Frag) : Sp := sp2 fun x y H Q _ => ∃ a ns k, x = .ref a ∧ SqL K H a (LI ns) ∧ y = .int k ∧ 0 ≤ k ∧ k < 1000 ∧ Q (.int (cellAt ns k)) H
theorem k__law_cell_at (T : Tp K mg base) : DefOk P w K mg base CX0 1 "_law_cell_at" ["_law_script", "_law_k"] (sp__law_cell_at K) := by
  obtain ⟨fd, F⟩ := d__law_cell_at T
  refine ⟨fd, F.ok sc__law_cell_at len2 (fun cdv A outer s H vs Q E hr h => ?_), (F.bindsN fun _ _ _ _ _ _ us hl => match us, hl with | [_, _], _ => rfl), F.kp, g__law_cell_at T⟩
  refine ⟨_, PSs.nox (pss_cons (ps_if (pt_cmpR op_lt (pv 1) (pe_callB (zlen K) (by rfl) (n_len T) (by decide +kernel) (pa_cons (pv 0) pa_nil)) (nomark _)) (pss_one (ps_ret (pe_ix (zixL K) (pv 0) (pv 1) (fun _ _ => rfl)))) pss_nil)
      (pss_one (ps_ret pe_int))), ?_⟩
  obtain ⟨_, _, rfl, a, ns, k, rfl, hS, rfl, h0, h1, q⟩ := h
  refine ⟨.int k, rfl, .ref a, rfl, a, LI ns, rfl, .inl hS, _, _, rfl, rfl, _, rfl, ite2 (fun e => ?_) (fun e => ?_)⟩
  · have hk : k.toNat < ns.length := by
      have := of_decide_eq_true e
      rw [List.length_map] at this
      omega
    refine ⟨.ref a, rfl, .int k, rfl, a, LI ns, k, .int ns[k.toNat], rfl, rfl, hS, at_of (j := k.toNat) (by omega) (li_get hk), ?_⟩
    have : cellAt ns k = ns[k.toNat] := by
      unfold cellAt
      rw [List.getElem?_eq_getElem hk]
      rfl
    rw [← this]
    exact q
  · have hk : ns.length ≤ k.toNat := by
      have : ¬ k < ((LI ns).length : Int) := fun z => e (decide_eq_true z)
      rw [List.length_map] at this
      omega
    have : cellAt ns k = 0 := by
      unfold cellAt
      rw [List.getElem?_eq_none hk]
      rfl
    rw [this] at q
    exact q
def sp__law_heap (K : PySem.W.Frag) : Sp := sp1 fun x H Q _ => ∃ a ns, x = .ref a ∧ SqL K H a (LI ns) ∧ ns.length ≤ 63 ∧
  ∀ H' p L, Same H H' → H p = none → H' p = some (.lst (LI L)) → L.length = ns.length → (∀ z ∈ L, 2 ≤ z ∧ z ≤ 998) → Q (.ref p) H'
theorem k__law_heap (T : Tp K mg base) : DefOk P w K mg base CX0 2 "_law_heap" ["_law_script"] (sp__law_heap K) := by
  obtain ⟨fd, F⟩ := d__law_heap T
  refine ⟨fd, F.ok sc__law_heap len1 (fun cdv A outer s H vs Q E hr h => ?_), (F.bindsN fun _ _ _ _ _ _ us hl => match us, hl with | [_], _ => rfl), F.kp, g__law_heap T⟩
  refine ⟨_, PSs.nox (pss_cons (ps_set (i := 1) sc__law_heap.nd rfl (Or.inl rfl) (pe_ix (zixT K) (pe_tup (pa_cons pe_int (pa_cons pe_int (pa_cons pe_int (pa_cons pe_int pa_nil))))) (pe_fn (k__law_draw T) (hr.mono (by decide)) (by rfl) pass0 (pa_cons (pe_fn (k__law_cell_at T) (hr.mono (by decide)) (by rfl) pass0 (pa_cons (pv 0) (pa_cons pe_int pa_nil))) (pa_cons pe_int (pa_cons pe_int pa_nil)))) (fun _ _ => rfl)))
      (pss_cons (ps_set (i := 2) sc__law_heap.nd rfl (Or.inl rfl) (pe_fn (k__law_draw T) (hr.mono (by decide)) (by rfl) pass0 (pa_cons (pe_fn (k__law_cell_at T) (hr.mono (by decide)) (by rfl) pass0 (pa_cons (pv 0) (pa_cons pe_int pa_nil))) (pa_cons pe_int (pa_cons pe_int pa_nil)))))
      (pss_cons (ps_set (i := 3) sc__law_heap.nd rfl (Or.inl rfl) (pe_lst pa_nil))
      (pss_cons (ps_for PassesOwn.never rfl (pi_range1 (by rfl) (n_range T) (pa_cons (pe_callB (zlen K) (by rfl) (n_len T) (by decide +kernel) (pa_cons (pv 0) pa_nil)) pa_nil)) (pg_name (i := 4) sc__law_heap.nd rfl (Or.inl rfl))
        (pss_cons (ps_set (i := 5) sc__law_heap.nd rfl (Or.inl rfl) (pe_op op_add (pe_op op_mod (pe_op op_mul (pe_fn (k__law_draw T) (hr.mono (by decide)) (by rfl) pass0 (pa_cons (pe_ix (zixL K) (pv 0) (pv 4) (fun _ _ => rfl)) (pa_cons (pe_op op_add (pe_op op_mod (pv 4) pe_int) pe_int) (pa_cons (pv 1) pa_nil)))) pe_int) pe_int) (pe_ix (zixT K) (pe_tup (pa_cons pe_int (pa_cons pe_int pa_nil))) (pe_op op_mod (pv 4) pe_int) (fun _ _ => rfl))))
      (Evl.pss_cut (ps_if (PW.pt (pw_and (pt_cmpR op_lt (pv 2) pe_int (nomark _)) (pw_and1 (pt_cmpR op_lt (pe_fn (k__law_draw T) (hr.mono (by decide)) (by rfl) pass0 (pa_cons (pe_ix (zixL K) (pv 0) (pv 4) (fun _ _ => rfl)) (pa_cons (pe_op op_add (pe_op op_mod (pv 4) pe_int) pe_int) (pa_cons pe_int pa_nil)))) (pe_op op_sub (pe_op op_mul pe_int (pv 2)) pe_int) (nomark _))))) (pss_one (ps_set (i := 5) sc__law_heap.nd rfl (Or.inl rfl) pe_int)) pss_nil)
      (Evl.pss_cut (ps_if (PW.pt (pw_and (pt_cmpR (zin K) (pv 2) (pe_tup (pa_cons pe_int (pa_cons pe_int pa_nil))) (by rfl)) (pw_and1 (pt_cmpR op_gt (pe_fn (k__law_draw T) (hr.mono (by decide)) (by rfl) pass0 (pa_cons (pe_ix (zixL K) (pv 0) (pv 4) (fun _ _ => rfl)) (pa_cons (pe_op op_add (pe_op op_mod (pv 4) pe_int) pe_int) (pa_cons pe_int pa_nil)))) pe_int (nomark _))))) (pss_one (ps_set (i := 5) sc__law_heap.nd rfl (Or.inl rfl) (pe_op op_sub pe_int (pe_op op_mod (pe_op op_mod (pv 4) (pe_op op_add (pv 1) pe_int)) pe_int)))) pss_nil)
      (Evl.pss_cut (ps_if (PW.pt (pw_and (pt_cmpR op_gt (pv 2) pe_int (nomark _)) (pw_and1 (pt_cmpR op_eq (pe_op op_mod (pv 4) pe_int) pe_int (nomark _))))) (pss_one (ps_set (i := 5) sc__law_heap.nd rfl (Or.inl rfl) pe_int)) pss_nil)
      (pss_one (ps_expr (pe_bm PySem.F.plainAttrs_list PySem.F.slot_list_append PySem.F.type_list_append mt_append (pv 3) (pa_cons (pv 5) pa_nil)))))))))
      (pss_one (ps_ret (pv 3))))))), ?_⟩
  obtain ⟨_, rfl, a, ns, rfl, hS, hlen, q⟩ := h
  -- few
  refine ⟨by show 4 ≤ sizeLine; decide, fun t nt => ⟨.ref a, rfl, ?_⟩⟩
  have s1 : Same H (upd H t (.tup [.int 2, .int 3, .int 7, .int 60])) := same_upd nt
  refine ⟨_, _, rfl, a, ns, 0, rfl, s1.seq hS, rfl, by decide, by decide, ?_⟩
  refine ⟨_, _, _, rfl, _, 6, 4, rfl, rfl, rfl, by decide, by decide, fun H1 s2 => ?_⟩
  have b4 : 0 ≤ draw (cellAt ns 0) 6 4 ∧ draw (cellAt ns 0) 6 4 < 4 := ⟨Int.emod_nonneg _ (by decide), Int.emod_lt_of_pos _ (by decide)⟩
  generalize draw (cellAt ns 0) 6 4 = d0 at b4
  obtain ⟨few, hfew, hf0⟩ : ∃ few : Int, atI [V.int 2, V.int 3, V.int 7, V.int 60] d0 = some (.int few) ∧ 0 < few := by
    have : ∀ j : Fin 4, ∃ few : Int, ([V.int 2, V.int 3, V.int 7, V.int 60])[j.val]? = some (.int few) ∧ 0 < few := by
      intro j
      match j with
      | ⟨0, _⟩ => exact ⟨2, rfl, by decide⟩
      | ⟨1, _⟩ => exact ⟨3, rfl, by decide⟩
      | ⟨2, _⟩ => exact ⟨7, rfl, by decide⟩
      | ⟨3, _⟩ => exact ⟨60, rfl, by decide⟩
    obtain ⟨few, e, h⟩ := this ⟨d0.toNat, by omega⟩
    exact ⟨few, at_of (j := d0.toNat) (by omega) e, h⟩
  refine ⟨t, _, _, _, rfl, rfl, SqT.of (s2 _ _ upd_same), hfew, ?_⟩
  -- lean
  refine ⟨.ref a, rfl, ?_⟩
  have s12 := s1.trans s2
  refine ⟨_, _, rfl, a, ns, 1, rfl, s12.seq hS, rfl, by decide, by decide, ?_⟩
  refine ⟨_, _, _, rfl, _, 7, 9, rfl, rfl, rfl, by decide, by decide, fun H2 s3 => ?_⟩
  have s13 := s12.trans s3
  generalize draw (cellAt ns 1) 7 9 = lean
  -- the list
  refine ⟨Nat.zero_le _, fun p np => ?_⟩
  have np0 : H p = none := s13.free np
  refine ⟨.ref a, rfl, a, LI ns, rfl, .inl ((sm_put s13 np0).seq hS), _, rfl, ?_⟩
  refine ⟨by rw [List.length_map]; omega, by rw [List.length_map]; omega, ?_⟩
  refine for_range (n := ((LI ns).length : Int).toNat) (fun i σ H' => ∃ y4 y5 L, σ = [some (.ref a), some (.int few), some (.int lean), some (.ref p), y4, y5] ∧ Same H H' ∧ H' p = some (.lst (LI L)) ∧ L.length = i ∧ ∀ z ∈ L, 2 ≤ z ∧ z ≤ 998)
    ⟨none, none, [], rfl, sm_put s13 np0, upd_same, rfl, fun z hz => by cases hz⟩ ?_ ?_
  · rintro i σ H' hi ⟨y4, y5, L, rfl, sm, eL, hL, hz⟩
    have hi' : i < ns.length := by
      rw [List.length_map] at hi
      omega
    -- the kind drawn
    refine ⟨.ref a, rfl, _, rfl, a, LI ns, _, _, rfl, rfl, sm.seq hS, at_of (j := i) (by omega) (li_get hi'), ?_⟩
    refine ⟨_, rfl, _, _, rfl, rfl, (by show (0 : Int) < 5; decide), _, _, rfl, rfl, _, rfl, ?_⟩
    refine ⟨_, _, _, rfl, _, _, few, rfl, rfl, rfl, by omega, hf0, fun H1 t1 => ?_⟩
    refine ⟨_, _, rfl, rfl, .inr ⟨by decide, by decide⟩, _, _, rfl, rfl, (by show (0 : Int) < 99; decide), ?_⟩
    refine ⟨by show 2 ≤ sizeLine; decide, fun u nu => ?_⟩
    obtain ⟨base, hb, hb1⟩ : ∃ base : Int, atI [V.int 900, V.int 3] ((0 + (i : Int)) % 2) = some (.int base) ∧ (base = 900 ∨ base = 3) := by
      by_cases e : i % 2 = 0
      · exact ⟨900, at_of (j := 0) (by omega) rfl, .inl rfl⟩
      · exact ⟨3, at_of (j := 1) (by omega) rfl, .inr rfl⟩
    refine ⟨_, rfl, _, _, rfl, rfl, (by show (0 : Int) < 2; decide), u, _, _, _, rfl, rfl, SqT.of upd_same, hb, _, _, rfl, rfl, ?_⟩
    have sm1 : Same H (upd H1 u (.tup [.int 900, .int 3])) := (sm.trans t1).trans (same_upd nu)
    have eL1 : upd H1 u (.tup [.int 900, .int 3]) p = some (.lst (LI L)) := same_upd nu _ _ (t1 _ _ eL)
    generalize draw ns[i] ((0 + (i : Int)) % 5 + 1) few = d1
    have hz1 : 2 ≤ d1 * 7 % 99 + base ∧ d1 * 7 % 99 + base ≤ 999 := by omega
    have hz1' : 2 ≤ d1 * 7 % 99 + base ∧ d1 * 7 % 99 + base ≤ 998 := by
      refine ⟨hz1.1, ?_⟩
      have := Int.emod_lt_of_pos (d1 * 7) (show (0 : Int) < 99 by decide)
      rcases hb1 with rfl | rfl <;> omega
    generalize upd H1 u (.tup [.int 900, .int 3]) = H3 at sm1 eL1
    -- three ifs, each leaves a kind
    refine ⟨fun σ2 H2 => ∃ z, σ2 = [some (.ref a), some (.int few), some (.int lean), some (.ref p), some (.int (0 + (i : Int))), some (.int z)] ∧ Same H H2 ∧ H2 p = some (.lst (LI L)) ∧ 2 ≤ z ∧ z ≤ 998, ?_, ?_⟩
    · refine ⟨_, rfl, _, _, rfl, rfl, _, rfl, ite2 (fun _ => ?_) (fun _ => ⟨_, rfl, sm1, eL1, hz1'⟩)⟩
      refine ⟨.ref a, rfl, _, rfl, a, LI ns, _, _, rfl, rfl, sm1.seq hS, at_of (j := i) (by omega) (li_get hi'), ?_⟩
      refine ⟨_, rfl, _, _, rfl, rfl, (by show (0 : Int) < 7; decide), _, _, rfl, rfl, ?_⟩
      refine ⟨_, _, _, rfl, _, _, 8, rfl, rfl, rfl, by omega, by decide, fun H4 t4 => ?_⟩
      refine ⟨_, rfl, _, _, rfl, rfl, .inl ⟨by decide, by decide⟩, _, _, rfl, rfl, _, _, rfl, rfl, _, rfl, ite2 (fun _ => ?_) (fun _ => ⟨_, rfl, sm1.trans t4, t4 _ _ eL1, hz1'⟩)⟩
      exact ⟨5, rfl, sm1.trans t4, t4 _ _ eL1, by decide, by decide⟩
    rintro σ2 H2 ⟨z, rfl, sm2, eL2, hz2⟩
    refine ⟨fun σ2 H2 => ∃ z, σ2 = [some (.ref a), some (.int few), some (.int lean), some (.ref p), some (.int (0 + (i : Int))), some (.int z)] ∧ Same H H2 ∧ H2 p = some (.lst (LI L)) ∧ 2 ≤ z ∧ z ≤ 998, ?_, ?_⟩
    · refine ⟨_, rfl, by show 2 ≤ sizeLine; decide, fun u nu => ?_⟩
      have sm3 := sm2.trans (same_upd (o := .tup [.int 5, .int 6]) nu)
      have eL3 := same_upd (o := .tup [.int 5, .int 6]) nu _ _ eL2
      refine ⟨u, _, rfl, .inr (SqT.of upd_same), rfl, rfl, _, rfl, ite2 (fun _ => ?_) (fun _ => ⟨z, rfl, sm3, eL3, hz2⟩)⟩
      refine ⟨.ref a, rfl, _, rfl, a, LI ns, _, _, rfl, rfl, sm3.seq hS, at_of (j := i) (by omega) (li_get hi'), ?_⟩
      refine ⟨_, rfl, _, _, rfl, rfl, (by show (0 : Int) < 7; decide), _, _, rfl, rfl, ?_⟩
      refine ⟨_, _, _, rfl, _, _, 9, rfl, rfl, rfl, by omega, by decide, fun H4 t4 => ?_⟩
      refine ⟨_, _, rfl, rfl, _, rfl, ite2 (fun _ => ?_) (fun _ => ⟨z, rfl, sm3.trans t4, t4 _ _ eL3, hz2⟩)⟩
      refine ⟨_, rfl, _, rfl, _, _, rfl, rfl, _, _, rfl, rfl, ?_, _, _, rfl, rfl, (by show (0 : Int) < 11; decide), _, _, rfl, rfl, ?_⟩
      · show 0 < few + 1
        omega
      · exact ⟨_, rfl, sm3.trans t4, t4 _ _ eL3, by omega, by omega⟩
    rintro σ2 H2 ⟨z, rfl, sm2, eL2, hz2⟩
    refine ⟨fun σ2 H2 => ∃ z, σ2 = [some (.ref a), some (.int few), some (.int lean), some (.ref p), some (.int (0 + (i : Int))), some (.int z)] ∧ Same H H2 ∧ H2 p = some (.lst (LI L)) ∧ 2 ≤ z ∧ z ≤ 998, ?_, ?_⟩
    · refine ⟨_, rfl, _, _, rfl, rfl, _, rfl, ite2 (fun _ => ?_) (fun _ => ⟨z, rfl, sm2, eL2, hz2⟩)⟩
      refine ⟨_, rfl, _, _, rfl, rfl, (by show (0 : Int) < 2; decide), rfl, _, rfl, ite2 (fun _ => ?_) (fun _ => ⟨z, rfl, sm2, eL2, hz2⟩)⟩
      exact ⟨11, rfl, sm2, eL2, by decide, by decide⟩
    rintro σ2 H2 ⟨z, rfl, sm2, eL2, hz2⟩
    refine ⟨.ref p, rfl, .inl ⟨rfl, _, SqL.of eL2⟩, .int z, rfl, p, _, _, rfl, rfl, eL2, ?_, ?_⟩
    · rw [List.length_map]
      exact sz_lt (by omega)
    · refine ⟨_, _, L ++ [z], rfl, sm_put sm2 np0, ?_, ?_, ?_⟩
      · rw [upd_same, li_snoc]
      · rw [List.length_append, hL]
        rfl
      · intro y hy
        rcases List.mem_append.mp hy with hy | hy
        · exact hz y hy
        · rw [List.mem_singleton.mp hy]
          exact hz2
  · rintro σ H' ⟨y4, y5, L, rfl, sm, eL, hL, hz⟩
    refine ⟨.ref p, rfl, q H' p L sm np0 eL ?_ hz⟩
    rw [hL, List.length_map]
    omega
def sp__law_many (K : PySem.W.Frag) : Sp := sp1 fun x H Q _ => ∃ a L, x = .ref a ∧ SqL K H a (LI L) ∧ L.length ≤ 100000 ∧ ∀ H' d, Same H H' → H d = none → H' d = some (.dK (dk (tally L))) → Q (.ref d) H'
theorem k__law_many (T : Tp K mg base) : DefOk P w K mg base CX0 1 "_law_many" ["_law_heap_here"] (sp__law_many K) := by
  obtain ⟨fd, F⟩ := d__law_many T
  refine ⟨fd, F.ok sc__law_many len1 (fun cdv A outer s H vs Q E hr h => ?_), (F.bindsN fun _ _ _ _ _ _ us hl => match us, hl with | [_], _ => rfl), F.kp, g__law_many T⟩
  refine ⟨_, PSs.nox (pss_cons (ps_set (i := 1) sc__law_many.nd rfl (Or.inl rfl) pe_dnewK)
      (pss_cons (ps_for PassesOwn.never rfl (pi_list (pv 0)) (pg_name (i := 2) sc__law_many.nd rfl (Or.inl rfl))
        (pss_one (ps_dput (hu_of hr) (pv 1) (pv 2) (pe_op op_add (pe_dget2 (hu_of hr) (pv 1) (pv 2) pe_int ⟨by rfl, by rfl, by rfl, by rfl⟩) pe_int) (by rfl))))
      (pss_one (ps_ret (pv 1))))), ?_⟩
  obtain ⟨_, rfl, a, L, rfl, hS, hl, q⟩ := h
  intro d nd
  refine ⟨.ref a, rfl, a, rfl, ⟨_, (same_upd nd).seq hS⟩, ?_⟩
  refine for_it (walk_list (xs := LI L)) (fun i σ H' => ∃ y2, σ = [some (.ref a), some (.ref d), y2] ∧ Same H H' ∧ H' d = some (.dK (dk (tally (L.take i)))))
    ⟨none, rfl, same_upd nd, by rw [upd_same]; rfl⟩ (fun i σ H' _ ⟨_, _, s, _⟩ => s.seq hS) ?_ ?_
  · rintro i x σ H1 _ hi ⟨y2, rfl, sm, hd⟩ ⟨rfl, hx⟩
    rw [List.length_map] at hi
    rw [li_get hi] at hx
    obtain rfl := Option.some.inj hx
    have hlt : (dk (tally (L.take i))).length < sizeLine := sz_lt (by
      have := tally_len (L.take i)
      rw [List.length_take] at this
      rw [dk_len]
      omega)
    refine ⟨.ref d, rfl, d, rfl, .inl ⟨_, .inl hd⟩, _, rfl, _, DGet.k (k := Sum.inl L[i]) hd, (lk (tally (L.take i)) L[i]).getD 0, 1, ?_, rfl, ?_⟩
    · rw [dk_val]
      cases lk (tally (L.take i)) L[i] <;> rfl
    · refine ⟨.ref d, rfl, _, rfl, d, _, rfl, DPut.k (k := Sum.inl L[i]) hd hlt, _, rfl, sm_put sm nd, ?_⟩
      rw [upd_same, dk_put _ _ _ (tally_nodup _), List.take_add_one, List.getElem?_eq_getElem hi]
      show _ = some (HO.dK (dk (tally (_ ++ [_]))))
      rw [tally_snoc]
      rfl
  · rintro σ H1 ⟨y2, rfl, sm, hd⟩
    rw [List.length_map, List.take_length] at hd
    exact ⟨.ref d, rfl, q _ d sm nd hd⟩
def sp__law_most (K : PySem.W.Frag) : Sp := sp1 fun x H Q _ => ∃ a L, x = .ref a ∧ SqL K H a (LI L) ∧ L.length ≤ 100000 ∧ ∀ H', Same H H' → Q (.int (mostI L)) H'
theorem k__law_most (T : Tp K mg base) : DefOk P w K mg base CX0 2 "_law_most" ["_law_heap_here"] (sp__law_most K) := by
  obtain ⟨fd, F⟩ := d__law_most T
  refine ⟨fd, F.ok sc__law_most len1 (fun cdv A outer s H vs Q E hr h => ?_), (F.bindsN fun _ _ _ _ _ _ us hl => match us, hl with | [_], _ => rfl), F.kp, g__law_most T⟩
  refine ⟨_, PSs.nox (pss_one (ps_ret (pe_callB (zmax K) (by rfl) (n_max T) (by decide +kernel) (pa_cons (pe_op op_cat (pe_lst (pa_cons pe_int pa_nil)) (pe_lc (own := [("_law_kind", 1), ("_law_many_here", 2)]) (g := (gTup K 2 (gCons (gName 1) (gCons (gName 2) gNil)))) (tt := tYes) (by rfl) sc__law_most.nd (pi_itemsN (pe_fn (k__law_many T) (hr.mono (by decide)) (by rfl) pass0 (pa_cons (pv 0) pa_nil))) (blkOk_by (own := [("_law_kind", 1), ("_law_many_here", 2)]) (N := N__law_most) (sc := defScope s__law_most) (by decide +kernel)) (fun _ _ _ _ _ => pg_tup rfl (pgs_cons (pg_name (i := 1) sc__law_most.nd rfl (Or.inl rfl)) (pgs_cons (pg_name (i := 2) sc__law_most.nd rfl (Or.inl rfl)) pgs_nil))) (fun _ _ _ _ _ => pts_nil) (fun _ _ _ _ _ => (pv 2)))) pa_nil)))), ?_⟩
  obtain ⟨_, rfl, a, L, rfl, hS, hl, q⟩ := h
  refine ⟨by show 1 ≤ sizeLine; decide, fun c nc => ?_⟩
  have s1 : Same H (upd H c (.lst [.int 0])) := same_upd nc
  refine ⟨.ref a, rfl, _, rfl, a, L, rfl, s1.seq hS, hl, fun H2 d s2 nd hd => ?_⟩
  refine ⟨d, dk (tally L), rfl, hd, fun o => ⟨d, o, _, rfl, upd_same, fun D hD => ?_⟩⟩
  have cd : c ≠ d := fun z => by rw [← z, upd_same] at nd; cases nd
  have hc3 : upd H2 d (.frz o (.dK (dk (tally L)))) c = some (.lst [.int 0]) := by
    rw [upd_ne cd]
    exact s2 _ _ upd_same
  have s3 : Same H (upd H2 d (.frz o (.dK (dk (tally L))))) := sm_put (s1.trans s2) (s1.free nd)
  have tl := tally_len L
  refine lc_pure (L := tally L) (fun p => some (.int p.2)) (by rw [← dk_len]; exact walk_items) hD (by omega) (fun _ _ s g => s _ _ g) upd_same ?_ (fun H' s hr => ?_)
  · rintro i hi x H5 H6 s5 g5 ⟨T, k, v, rfl, nT, rfl, hk, hv⟩ Z Zn z1 z2
    obtain ⟨rfl, rfl⟩ := dk_item hi hk hv
    exact ⟨T, _, rfl, SqT.of upd_same, rfl, _, _, rfl, _, _, rfl, rfl, rfl, _, rfl, z1 _ _ rfl (same_upd nT)⟩
  · rw [fm_map, show ((tally L).map fun p => V.int p.2) = LI ((tally L).map (·.2)) from (List.map_map ..).symm] at hr
    refine ⟨c, D, [.int 0], LI ((tally L).map (·.2)), rfl, rfl, s _ _ hc3, hr, ?_, fun p np => ?_⟩
    · rw [LI, List.length_map, List.length_map]
      refine sz_le ?_
      show 1 + _ ≤ _
      omega
    · refine ⟨p, 0 :: (tally L).map (·.2), rfl, SqL.of upd_same, Nat.zero_lt_succ _, fun m hm hle => ?_⟩
      have em : m = mostI L := by
        rw [← mostI_tally]
        refine mx_eq (List.mem_cons.mp hm) (hle 0 List.mem_cons_self) fun y hy => hle y (List.mem_cons_of_mem _ hy)
      rw [em]
      exact q _ ((s3.trans s).trans (same_upd np))
def sp_is_number (K : PySem.W.Frag) : Sp := sp3 fun x y z H Q _ => ∃ lo hi, y = .int lo ∧ z = .int hi ∧ NumTy K H x ∧ Q (.bl (numOk x lo hi)) H
theorem k_is_number (T : Tp K mg base) : DefOk P w K mg base CX0 1 "is_number" ["thing", "low", "high"] (sp_is_number K) := by
  obtain ⟨fd, F⟩ := d_is_number T
  refine ⟨fd, F.ok sc_is_number len3 (fun cdv A outer s H vs Q E hr h => ?_), (F.bindsN fun _ _ _ _ _ _ us hl => match us, hl with | [_, _, _], _ => rfl), F.kp, g_is_number T⟩
  refine ⟨_, PSs.nox (pss_one (ps_ret (pe_and (pe_callB (zisi K) (by rfl) (n_isinstance T) (by decide +kernel) (pa_cons (pv 0) (pa_cons (pe_bltn (v := .ty "int") (by rfl) (n_int T) (by decide +kernel) rfl) pa_nil))) (pe_and (pe_not (pe_callB (zisi K) (by rfl) (n_isinstance T) (by decide +kernel) (pa_cons (pv 0) (pa_cons (pe_bltn (v := .ty "bool") (by rfl) (n_bool T) (by decide +kernel) rfl) pa_nil)))) (pe_one (pe_chain op_le op_le (pv 1) (pv 0) (pv 2))))))), ?_⟩
  obtain ⟨x, _, _, rfl, lo, hi, rfl, rfl, ⟨t, ty, e1, e2⟩, q⟩ := h
  refine ⟨x, rfl, x, .ty "int", t, .type "int", isI x, rfl, .ty _, ty, e1, _, rfl, ?_⟩
  cases hI : isI x with
  | false =>
    refine iteF ?_
    have : numOk x lo hi = false := by cases x <;> first | rfl | cases hI
    rw [this] at q
    exact q
  | true =>
    refine iteT ⟨x, rfl, x, .ty "bool", t, .type "bool", isB x, rfl, .ty _, ty, e2, _, rfl, _, rfl, ?_⟩
    cases hB : isB x with
    | true =>
      refine iteF ?_
      have : numOk x lo hi = false := by cases x <;> first | rfl | cases hB
      rw [this] at q
      exact q
    | false =>
      refine iteT ?_
      obtain ⟨i, rfl⟩ : ∃ i, x = .int i := by
        cases x <;> first | exact ⟨_, rfl⟩ | (exfalso; revert hI hB; simp [isI, isB])
      refine ⟨.int lo, rfl, .int i, rfl, _, _, rfl, rfl, _, rfl, ite2 (fun h1 => ?_) (fun h1 => ?_)⟩
      · refine ⟨.int hi, rfl, _, _, rfl, rfl, ?_⟩
        have : numOk (.int i) lo hi = decide (i ≤ hi) := by
          show (decide (lo ≤ i) && decide (i ≤ hi)) = _
          rw [h1, Bool.true_and]
        rw [this] at q
        exact q
      · have : numOk (.int i) lo hi = false := by
          show (decide (lo ≤ i) && decide (i ≤ hi)) = _
          rw [eq_false_of_ne_true h1, Bool.false_and]
        rw [this] at q
        exact q
def sp_check_heap (K : PySem.W.Frag) : Sp := sp1 fun x H Q _ => ∃ a L, x = .ref a ∧ SqL K H a (LI L) ∧ Good L ∧ ∀ H', Same H H' → Q .non H'
theorem k_check_heap (T : Tp K mg base) : DefOk P w K mg base CX0 2 "check_heap" ["heap"] (sp_check_heap K) := by
  obtain ⟨fd, F⟩ := d_check_heap T
  refine ⟨fd, F.ok sc_check_heap len1 (fun cdv A outer s H vs Q E hr h => ?_), (F.bindsN fun _ _ _ _ _ _ us hl => match us, hl with | [_], _ => rfl), F.kp, g_check_heap T⟩
  refine ⟨_, PSs.nox (pss_one (ps_if (PW.pt (pw_or (pt_not (pt_val (pe_callB (zisi K) (by rfl) (n_isinstance T) (by decide +kernel) (pa_cons (pv 0) (pa_cons (pe_bltn (v := .ty "list") (by rfl) (n_list T) (by decide +kernel) rfl) pa_nil))))) (pw_or (pt_cmpR op_gt (pe_callB (zlen K) (by rfl) (n_len T) (by decide +kernel) (pa_cons (pv 0) pa_nil)) (pe_glob (v := .int 1000000) (by rfl) (c_THINGS T).choose_spec ⟨_, rfl⟩) (nomark _)) (pw_or1 (pt_not (pt_val (pe_callB (zall K) (by rfl) (n_all T) (by decide +kernel) (pa_cons (pe_lc (own := [("kind", 1)]) (g := gName 1) (tt := tYes) (by rfl) sc_check_heap.nd (pi_list (pv 0)) (blkOk_by (own := [("kind", 1)]) (N := N_check_heap) (sc := defScope s_check_heap) (by decide +kernel)) (fun _ _ _ _ _ => pg_name (i := 1) sc_check_heap.nd rfl (Or.inl rfl)) (fun _ _ _ _ _ => pts_nil) (fun _ _ _ _ _ => (pe_fn (k_is_number T) (hr.mono (by decide)) (by rfl) pass0 (pa_cons (pv 1) (pa_cons pe_int (pa_cons (pe_glob (v := .int 999) (by rfl) (c_GREATEST T).choose_spec ⟨_, rfl⟩) pa_nil)))))) pa_nil)))))))) (pss_one ps_never) pss_nil)), ?_⟩
  obtain ⟨_, rfl, a, L, rfl, hS, hg, q⟩ := h
  refine ⟨.ref a, rfl, .ref a, .ty "list", _, .type "list", true, rfl, .ty _, ty_list hS, kit_ty (by decide +kernel), true, rfl, iteF ?_⟩
  refine ⟨.ref a, rfl, a, LI L, rfl, .inl hS, _, _, rfl, rfl, _, rfl, ite2 (fun e => ?_) (fun _ => ?_)⟩
  · have := of_decide_eq_true e
    rw [List.length_map] at this
    have := hg.len
    omega
  · refine ⟨.ref a, rfl, a, rfl, ⟨_, hS⟩, fun D hD => ?_⟩
    refine lc_pure (L := L) (fun z => some (.bl (numOk (.int z) 0 999))) (by rw [← List.length_map (f := V.int)]; exact walk_list) hD hg.len (fun _ _ s g => s.seq g) hS ?_ (fun H' s hr => ?_)
    · rintro i hi x H1 H2 s1 _ ⟨rfl, hx⟩ Z Zn z1 z2
      rw [li_get hi] at hx
      obtain rfl := Option.some.inj hx
      exact ⟨rfl, _, rfl, _, _, _, rfl, 0, 999, rfl, rfl, numTy_int _, z1 _ _ rfl (Same.refl _)⟩
    · rw [fm_map] at hr
      refine ⟨D, L.map (fun z => numOk (.int z) 0 999), rfl, ?_, true, ?_, iteF (q H' s)⟩
      · rw [List.map_map]
        exact SqL.of hr
      · rw [all_map]
        refine congrArg V.bl (List.all_eq_true.mpr fun z hz => ?_)
        have := hg.rng z hz
        simp [numOk, this]
def sp_counts_of (K : PySem.W.Frag) : Sp := sp1 fun x H Q _ => ∃ a L, x = .ref a ∧ SqL K H a (LI L) ∧ L.length ≤ 100000 ∧ ∀ H' d, Same H H' → H d = none → H' d = some (.dK (dk (cn L))) → Q (.ref d) H'
theorem k_counts_of (T : Tp K mg base) : DefOk P w K mg base CX0 1 "counts_of" ["heap"] (sp_counts_of K) := by
  obtain ⟨fd, F⟩ := d_counts_of T
  refine ⟨fd, F.ok sc_counts_of len1 (fun cdv A outer s H vs Q E hr h => ?_), (F.bindsN fun _ _ _ _ _ _ us hl => match us, hl with | [_], _ => rfl), F.kp, g_counts_of T⟩
  refine ⟨_, PSs.nox (pss_cons (ps_set (i := 1) sc_counts_of.nd rfl (Or.inl rfl) pe_dnewK)
      (pss_cons (ps_for PassesOwn.never rfl (pi_list (pe_callB (zsorted K) (by rfl) (n_sorted T) (by decide +kernel) (pa_cons (pv 0) pa_nil))) (pg_name (i := 2) sc_counts_of.nd rfl (Or.inl rfl))
        (pss_one (ps_dput (hu_of hr) (pv 1) (pv 2) (pe_op op_add (pe_dget2 (hu_of hr) (pv 1) (pv 2) pe_int ⟨by rfl, by rfl, by rfl, by rfl⟩) pe_int) (by rfl))))
      (pss_one (ps_ret (pv 1))))), ?_⟩
  obtain ⟨_, rfl, a, L, rfl, hS, hl, q⟩ := h
  intro d nd
  refine ⟨.ref a, rfl, a, L, rfl, (same_upd nd).seq hS, fun ns p pr so np => ?_⟩
  have e := sorted_eq pr so
  subst e
  have npd : d ≠ p := fun z => by
    rw [← z, upd_same] at np
    cases np
  refine ⟨p, rfl, ⟨_, SqL.of upd_same⟩, ?_⟩
  refine for_it (walk_list (xs := LI (srt L))) (fun i σ H' => ∃ y2, σ = [some (.ref a), some (.ref d), y2] ∧ Same H H' ∧ H' p = some (.lst (LI (srt L))) ∧ H' d = some (.dK (dk (tally ((srt L).take i)))))
    ⟨none, rfl, sm_put (same_upd nd) (by rw [upd_ne npd.symm] at np; exact np), upd_same, by rw [upd_ne npd, upd_same]; rfl⟩ (fun i σ H' _ ⟨_, _, _, h, _⟩ => SqL.of h) ?_ ?_
  · rintro i x σ H1 _ hi ⟨y2, rfl, sm, hp, hd⟩ ⟨rfl, hx⟩
    rw [List.length_map] at hi
    rw [li_get hi] at hx
    obtain rfl := Option.some.inj hx
    have hlt : (dk (tally ((srt L).take i))).length < sizeLine := sz_lt (by
      have := tally_len ((srt L).take i)
      rw [List.length_take, srt_len] at this
      rw [dk_len]
      omega)
    refine ⟨.ref d, rfl, d, rfl, .inl ⟨_, .inl hd⟩, _, rfl, _, DGet.k (k := Sum.inl (srt L)[i]) hd, (lk (tally ((srt L).take i)) (srt L)[i]).getD 0, 1, ?_, rfl, ?_⟩
    · rw [dk_val]
      cases lk (tally ((srt L).take i)) (srt L)[i] <;> rfl
    · refine ⟨.ref d, rfl, _, rfl, d, _, rfl, DPut.k (k := Sum.inl (srt L)[i]) hd hlt, _, rfl, sm_put sm nd, ?_, ?_⟩
      · rw [upd_ne npd.symm]
        exact hp
      · rw [upd_same, dk_put _ _ _ (tally_nodup _), List.take_add_one, List.getElem?_eq_getElem hi]
        show _ = some (HO.dK (dk (tally (_ ++ [_]))))
        rw [tally_snoc]
        rfl
  · rintro σ H1 ⟨y2, rfl, sm, hp, hd⟩
    rw [List.length_map, List.take_length] at hd
    exact ⟨.ref d, rfl, q _ d sm nd hd⟩
def sp_counts (K : PySem.W.Frag) : Sp := sp1 fun x H Q _ => ∃ a L, x = .ref a ∧ SqL K H a (LI L) ∧ Good L ∧
  ∀ H' p ts, Same H H' → H p = none → (∀ t ∈ ts, H t = none) → p ∉ ts → H' p = some (.lst (ts.map V.ref)) → ObjsAt H' (fun q : Int × Int => .tup [.int q.1, .int q.2]) ts (cn L) → Q (.ref p) H'
theorem k_counts (T : Tp K mg base) : DefOk P w K mg base CX0 3 "counts" ["heap"] (sp_counts K) := by
  obtain ⟨fd, F⟩ := d_counts T
  refine ⟨fd, F.ok sc_counts len1 (fun cdv A outer s H vs Q E hr h => ?_), (F.bindsN fun _ _ _ _ _ _ us hl => match us, hl with | [_], _ => rfl), F.kp, g_counts T⟩
  refine ⟨_, PSs.nox (pss_cons (ps_expr (pe_fn (k_check_heap T) (hr.mono (by decide)) (by rfl) pass0 (pa_cons (pv 0) pa_nil)))
      (pss_one (ps_ret (LiI.pe_listItems rfl (pe_fn (k_counts_of T) (hr.mono (by decide)) (by rfl) pass0 (pa_cons (pv 0) pa_nil)) (by rfl) (n_list T) (by decide +kernel))))), ?_⟩
  obtain ⟨_, rfl, a, L, rfl, hS, hg, q⟩ := h
  refine ⟨.ref a, rfl, _, rfl, a, L, rfl, hS, hg, fun H1 s1 => ?_⟩
  refine ⟨.ref a, rfl, _, rfl, a, L, rfl, s1.seq hS, hg.len, fun H2 d s2 nd hd => ?_⟩
  refine ⟨d, _, rfl, hd, fun H3 p ts s3 np nt pt hp tt => ?_⟩
  exact q H3 p ts ((s1.trans s2).trans s3) ((s1.trans s2).free np) (fun t ht => (s1.trans s2).free (nt t ht)) pt hp (objs_of_items (ts := ts) tt)
def sp__law_numbers (K : PySem.W.Frag) : Sp := sp1 fun x H Q _ => ∃ a L, x = .ref a ∧ SqL K H a (LI L) ∧ L.length ≤ 100000 ∧ ∀ H', Same H H' → Q (.bl true) H'
theorem k__law_numbers (T : Tp K mg base) : DefOk P w K mg base CX0 1 "_law_numbers" ["_law_found"] (sp__law_numbers K) := by
  obtain ⟨fd, F⟩ := d__law_numbers T
  refine ⟨fd, F.ok sc__law_numbers len1 (fun cdv A outer s H vs Q E hr h => ?_), (F.bindsN fun _ _ _ _ _ _ us hl => match us, hl with | [_], _ => rfl), F.kp, g__law_numbers T⟩
  refine ⟨_, PSs.nox (pss_cons (ps_if (pt_not (pt_val (pe_callB (zisi K) (by rfl) (n_isinstance T) (by decide +kernel) (pa_cons (pv 0) (pa_cons (pe_bltn (v := .ty "list") (by rfl) (n_list T) (by decide +kernel) rfl) pa_nil))))) (pss_one (ps_ret pe_bl)) pss_nil)
      (pss_one (ps_ret (pe_not (pe_callB (zany K) (by rfl) (n_any T) (by decide +kernel) (pa_cons (pe_lc (own := [("_law_one", 1)]) (g := gName 1) (tt := tYes) (by rfl) sc__law_numbers.nd (pi_list (pv 0)) (blkOk_by (own := [("_law_one", 1)]) (N := N__law_numbers) (sc := defScope s__law_numbers) (by decide +kernel)) (fun _ _ _ _ _ => pg_name (i := 1) sc__law_numbers.nd rfl (Or.inl rfl)) (fun _ _ _ _ _ => pts_nil) (fun _ _ _ _ _ => (pe_or (pe_callB (zisi K) (by rfl) (n_isinstance T) (by decide +kernel) (pa_cons (pv 1) (pa_cons (pe_bltn (v := .ty "bool") (by rfl) (n_bool T) (by decide +kernel) rfl) pa_nil))) (pe_one (pe_not (pe_callB (zisi K) (by rfl) (n_isinstance T) (by decide +kernel) (pa_cons (pv 1) (pa_cons (pe_bltn (v := .ty "int") (by rfl) (n_int T) (by decide +kernel) rfl) pa_nil)))))))) pa_nil)))))), ?_⟩
  obtain ⟨_, rfl, a, L, rfl, hS, hl, q⟩ := h
  refine ⟨.ref a, rfl, .ref a, .ty "list", _, .type "list", true, rfl, .ty _, ty_list hS, kit_ty (by decide +kernel), true, rfl, iteF ?_⟩
  refine ⟨.ref a, rfl, a, rfl, ⟨_, hS⟩, fun D hD => ?_⟩
  refine lc_pure (L := L) (fun _ => some (.bl false)) (by rw [← List.length_map (f := V.int)]; exact walk_list) hD hl (fun _ _ s g => s.seq g) hS ?_ (fun H' s hr => ?_)
  · rintro i hi x H1 H2 s1 _ ⟨rfl, hx⟩ Z Zn z1 z2
    rw [li_get hi] at hx
    obtain rfl := Option.some.inj hx
    obtain ⟨t, ty, e1, e2⟩ := numTy_int (K := K) (H := H2) L[i]
    refine ⟨rfl, _, rfl, _, .ty "bool", t, .type "bool", false, rfl, .ty _, ty, e2, _, rfl, iteF ?_⟩
    exact ⟨_, rfl, _, .ty "int", t, .type "int", true, rfl, .ty _, ty, e1, _, rfl, z1 _ _ rfl (Same.refl _)⟩
  · rw [fm_map] at hr
    refine ⟨D, L.map (fun _ => false), rfl, ?_, false, ?_, q H' s⟩
    · rw [List.map_map]
      exact SqL.of hr
    · rw [any_map]
      simp
def sp_commonest (K : PySem.W.Frag) : Sp := sp1 fun x H Q _ => ∃ a L, x = .ref a ∧ SqL K H a (LI L) ∧ Good L ∧
  ∀ H' p, Same H H' → H p = none → H' p = some (.lst (LI (cmn L))) → Q (.ref p) H'
theorem k_commonest (T : Tp K mg base) : DefOk P w K mg base CX0 3 "commonest" ["heap"] (sp_commonest K) := by
  obtain ⟨fd, F⟩ := d_commonest T
  refine ⟨fd, F.ok sc_commonest len1 (fun cdv A outer s H vs Q E hr h => ?_), (F.bindsN fun _ _ _ _ _ _ us hl => match us, hl with | [_], _ => rfl), F.kp, g_commonest T⟩
  refine ⟨_, PSs.nox (pss_cons (ps_expr (pe_fn (k_check_heap T) (hr.mono (by decide)) (by rfl) pass0 (pa_cons (pv 0) pa_nil)))
      (pss_cons (ps_if (pt_cmpR op_eq (pe_callB (zlen K) (by rfl) (n_len T) (by decide +kernel) (pa_cons (pv 0) pa_nil)) pe_int (nomark _)) (pss_one (ps_ret (pe_lst pa_nil))) pss_nil)
      (pss_cons (ps_set (i := 1) sc_commonest.nd rfl (Or.inr rfl) (pe_fn (k_counts_of T) (hr.mono (by decide)) (by rfl) pass0 (pa_cons (pv 0) pa_nil)))
      (pss_cons (ps_set (i := 2) sc_commonest.nd rfl (Or.inr rfl) (pe_callB (zmax K) (by rfl) (n_max T) (by decide +kernel) (pa_cons (pe_listVals rfl (pv 1) (by rfl) (n_list T)) pa_nil)))
      (pss_one (ps_ret (pe_lc (own := [("kind", 3)]) (g := gName 3) (by rfl) sc_commonest.nd (pi_keysN (pv 1)) (blkOk_by (own := [("kind", 3)]) (N := N_commonest) (sc := defScope s_commonest) (by decide +kernel)) (fun _ _ _ _ _ => pg_name (i := 3) sc_commonest.nd rfl (Or.inl rfl)) (fun _ _ _ _ _ => pts_one (pt_cmpR op_eq (pe_dget (hu_of hr) (pv 1) (pv 3) (fun _ _ => rfl)) (pv 2) (nomark _))) (fun _ _ _ _ _ => (pv 3))))))))), ?_⟩
  obtain ⟨_, rfl, a, L, rfl, hS, hg, q⟩ := h
  refine ⟨.ref a, rfl, _, rfl, a, L, rfl, hS, hg, fun H1 s1 => ?_⟩
  refine ⟨.ref a, rfl, a, LI L, rfl, .inl (s1.seq hS), rfl, _, rfl, ite2 (fun e => ?_) (fun e => ?_)⟩
  · have e0 : L = [] := by
      have := V.int.inj (of_decide_eq_true e)
      rw [List.length_map] at this
      exact List.length_eq_zero_iff.mp (by omega)
    subst e0
    refine ⟨Nat.zero_le _, fun p np => ?_⟩
    have e1 : cmn [] = [] := by simp [cmn, cn, srt, tally]
    exact q _ p (sm_put s1 (s1.free np)) (s1.free np) (by rw [e1]; exact upd_same)
  · have hne : L ≠ [] := fun z => by
      subst z
      exact e (decide_eq_true rfl)
    refine ⟨.ref a, rfl, _, rfl, a, L, rfl, s1.seq hS, hg.len, fun H2 d s2 nd hd => ?_⟩
    refine ⟨.ref d, rfl, d, _, rfl, hd, fun v nv => ?_⟩
    have s3 := (s1.trans s2).trans (same_upd (o := .lst ((dk (cn L)).map (·.2))) nv)
    refine ⟨v, (cn L).map (·.2), rfl, SqL.of (by rw [upd_same, dk_vals]), ?_, fun m hm hle => ?_⟩
    · obtain ⟨z, r, rfl⟩ : ∃ z r, L = z :: r := by
        cases L with
        | nil => exact absurd rfl hne
        | cons z r => exact ⟨z, r, rfl⟩
      have h1 : (z, ((z :: r).count z : Int)) ∈ cn (z :: r) := mem_cn.mpr ⟨List.mem_cons_self, rfl⟩
      rw [List.length_map]
      exact List.length_pos_of_mem h1
    have em : m = mostI L := by
      refine mx_eq (.inr hm) ?_ hle
      obtain ⟨p, hp, rfl⟩ := List.mem_map.mp hm
      rw [(mem_cn.mp hp).2]
      omega
    subst em
    have hd3 := same_upd (o := .lst ((dk (cn L)).map (·.2))) nv _ _ hd
    generalize upd H2 v (.lst ((dk (cn L)).map (·.2))) = H3 at s3 hd3
    refine ⟨.ref d, rfl, d, dk (cn L), rfl, hd3, fun o => ⟨d, o, rfl, .inl ⟨_, upd_same, fun D hD => ?_⟩⟩⟩
    have dD : D ≠ d := fun z => by rw [z, upd_same] at hD; cases hD
    have dfr : H d = none := s1.free nd
    have s4 : Same H (upd H3 d (.frz o (.dK (dk (cn L))))) := sm_put s3 dfr
    refine lc_pure (L := cn L) (fun p => if p.2 = mostI L then some (.int p.1) else none) (by rw [← dk_len]; exact walk_keys) hD (by have := cn_len L; have := hg.len; omega) (fun _ _ s g => s _ _ g) upd_same ?_ (fun H' s hr => ?_)
    · rintro i hi x H5 H6 s5 g5 ⟨rfl, k, v, hx, rfl⟩ Z Zn z1 z2
      rw [dk_get hi] at hx
      obtain ⟨rfl, rfl⟩ := Prod.mk.inj (Option.some.inj hx)
      refine ⟨rfl, .ref d, rfl, _, rfl, d, .int (cn L)[i].2, rfl, .inl ⟨_, Sum.inl (cn L)[i].1, .inr ⟨o, g5⟩, rfl, ?_⟩, .int (mostI L), rfl, rfl, _, rfl, ite2 (fun e => ?_) (fun e => ?_)⟩
      · rw [dk_val, lk_of_mem (cn_nodup L) (List.getElem_mem hi)]
        rfl
      · have e' := V.int.inj (of_decide_eq_true e)
        exact ⟨_, rfl, z1 _ _ (if_pos e') (Same.refl _)⟩
      · have e' : ¬ (cn L)[i].2 = mostI L := fun z => e (decide_eq_true (congrArg V.int z))
        exact z2 _ (if_neg e') (Same.refl _)
    · rw [fm_filter] at hr
      refine q H' D (s4.trans s) (s4.free hD) hr
def sp_law (K : PySem.W.Frag) : Sp := sp1 fun x H Q _ => ∃ a ns, x = .ref a ∧ SqL K H a (LI ns) ∧ ns.length ≤ 63 ∧ ∀ H', Q (.bl true) H'
theorem law_start {K : PySem.W.Frag} (H : Hp) (a : Addr) (ns : List Int) (hl : ns.length ≤ 63) (_hT : ∀ p ∈ tf, H (He.cT K p).2 = some (.tbl #[])) (hS : SqL K H a (LI ns)) : sp_law K [.ref a] H (fun v _ => v = .bl true) fun _ _ _ => False :=
  ⟨_, rfl, a, ns, rfl, hS, hl, fun _ => rfl⟩
def flatT (T : Tab) : List Int := T.flatMap fun p => [p.1, p.2]
theorem flatT_len (T : Tab) : (flatT T).length = 2 * T.length := by
  induction T with
  | nil => rfl
  | cons p r ih =>
    show (p.1 :: p.2 :: flatT r).length = _
    simp [ih]
    omega
theorem flatT_snoc (T : Tab) (p : Int × Int) : flatT (T ++ [p]) = flatT T ++ [p.1, p.2] := by
  unfold flatT
  rw [List.flatMap_append]
  rfl
theorem ok_law {fd : FuncData} (F : FunD K "law" "law" (defArgs s_law) (defBody s_law) (defScope s_law) [] [] (He.fAd K ("law", none)) fd) (T : Tp K mg base) : FnOk P w K mg base CX0 4 (He.ga K "law") fd ["_law_script"] (sp_law K) := by
  refine F.ok sc_law len1 (fun cdv A outer s H vs Q E hr h => ?_)
  refine ⟨_, PSs.nox (pss_cons (ps_set (i := 1) sc_law.nd rfl (Or.inl rfl) (pe_fn (k__law_heap T) (hr.mono (by decide)) (by rfl) pass0 (pa_cons (pv 0) pa_nil)))
      (pss_cons (ps_set (i := 2) sc_law.nd rfl (Or.inr rfl) (pe_fn (k__law_many T) (hr.mono (by decide)) (by rfl) pass0 (pa_cons (pv 1) pa_nil)))
      (pss_cons (ps_setLc (i := 3) (own := [("_law_kind", 10)]) (g := gName 10) (tt := tYes) (by rfl) sc_law.nd rfl rfl (sw_true rfl rfl rfl (by decide +kernel)) (pi_list (pe_callB (call_sortedDI rfl) (by rfl) (n_sorted T) (by decide +kernel) (pa_cons (pv 2) pa_nil))) (blkOk_by (own := [("_law_kind", 10)]) (N := N_law) (sc := defScope s_law) (by decide +kernel)) (fun _ _ _ _ _ => pg_name (i := 10) sc_law.nd rfl (Or.inl rfl)) (fun _ _ _ _ _ => pts_nil) (fun _ _ _ _ _ => (pe_tup (pa_cons (pv 10) (pa_cons (pe_dget (hu_of hr) (pv 2) (pv 10) (fun _ _ => rfl)) pa_nil)))))
      (pss_cons (ps_set (i := 4) sc_law.nd rfl (Or.inr rfl) (pe_fn (k__law_most T) (hr.mono (by decide)) (by rfl) pass0 (pa_cons (pv 1) pa_nil)))
      (pss_cons (ps_for PassesOwn.never rfl (pi_tup (pe_tup (pa_cons (pv 1) (pa_cons (zrevL K (pv 1)) (pa_cons (pe_callB (zsorted K) (by rfl) (n_sorted T) (by decide +kernel) (pa_cons (pv 1) pa_nil)) (pa_cons (pv 1) pa_nil)))))) (pg_name (i := 5) sc_law.nd rfl (Or.inl rfl))
        (pss_cons (ps_set (i := 6) sc_law.nd rfl (Or.inl rfl) (pe_callTy (zlist K) (by rfl) (n_list T) (by decide +kernel) (pa_cons (pv 5) pa_nil)))
      (pss_cons (ps_set (i := 7) sc_law.nd rfl (Or.inl rfl) (pe_fn (k_counts T) (hr.mono (by decide)) (by rfl) pass0 (pa_cons (pv 6) pa_nil)))
      (pss_cons (ps_if (PW.pt (pw_or (pt_not (pt_val (pe_callB (zisi K) (by rfl) (n_isinstance T) (by decide +kernel) (pa_cons (pv 7) (pa_cons (pe_bltn (v := .ty "list") (by rfl) (n_list T) (by decide +kernel) rfl) pa_nil))))) (pw_or (pt_cmpR (zneD K hr.units) (pv 7) (pv 3) (nomark _)) (pw_or1 (pt_not (pt_val (pe_callB (zall K) (by rfl) (n_all T) (by decide +kernel) (pa_cons (pe_lc (own := [("_law_pair", 8)]) (g := gName 8) (tt := tYes) (by rfl) sc_law.nd (pi_list (pv 7)) (blkOk_by (own := [("_law_pair", 8)]) (N := N_law) (sc := defScope s_law) (by decide +kernel)) (fun _ _ _ _ _ => pg_name (i := 8) sc_law.nd rfl (Or.inl rfl)) (fun _ _ _ _ _ => pts_nil) (fun _ _ _ _ _ => (pe_callB (zisi K) (by rfl) (n_isinstance T) (by decide +kernel) (pa_cons (pv 8) (pa_cons (pe_bltn (v := .ty "tuple") (by rfl) (n_tuple T) (by decide +kernel) rfl) pa_nil))))) pa_nil)))))))) (pss_one (ps_ret pe_bl)) pss_nil)
      (pss_cons (ps_set (i := 9) sc_law.nd rfl (Or.inl rfl) (pe_lst pa_nil))
      (pss_cons (ps_for PassesOwn.never rfl (pi_list (pv 7)) (pg_name (i := 8) sc_law.nd rfl (Or.inl rfl))
        (pss_one (ps_expr (pe_bm PySem.F.plainAttrs_list PySem.F.slot_list_extend PySem.F.type_list_extend (zextT K) (pv 9) (pa_cons (pv 8) pa_nil)))))
      (pss_cons (ps_if (pt_not (pt_val (pe_fn (k__law_numbers T) (hr.mono (by decide)) (by rfl) pass0 (pa_cons (pv 9) pa_nil)))) (pss_one (ps_ret pe_bl)) pss_nil)
      (pss_cons (ps_expr (pe_bm PySem.F.plainAttrs_list PySem.F.slot_list_append PySem.F.type_list_append mt_append (pv 7) (pa_cons (pe_tup (pa_cons pe_int (pa_cons pe_int pa_nil))) pa_nil)))
      (pss_cons (ps_set (i := 7) sc_law.nd rfl (Or.inl rfl) (pe_fn (k_commonest T) (hr.mono (by decide)) (by rfl) pass0 (pa_cons (pv 6) pa_nil)))
      (pss_cons (ps_if (PW.pt (pw_or (pt_not (pt_val (pe_fn (k__law_numbers T) (hr.mono (by decide)) (by rfl) pass0 (pa_cons (pv 7) pa_nil)))) (pw_or (pt_cmpR (zneD K hr.units) (pv 7) (pe_lc (own := [("_law_kind", 10), ("_law_count", 11)]) (g := (gTup K 2 (gCons (gName 10) (gCons (gName 11) gNil)))) (by rfl) sc_law.nd (pi_list (pv 3)) (blkOk_by (own := [("_law_kind", 10), ("_law_count", 11)]) (N := N_law) (sc := defScope s_law) (by decide +kernel)) (fun _ _ _ _ _ => pg_tup rfl (pgs_cons (pg_name (i := 10) sc_law.nd rfl (Or.inl rfl)) (pgs_cons (pg_name (i := 11) sc_law.nd rfl (Or.inl rfl)) pgs_nil))) (fun _ _ _ _ _ => pts_one (pt_cmpR op_eq (pv 11) (pv 4) (nomark _))) (fun _ _ _ _ _ => (pv 10))) (nomark _)) (pw_or1 (pt_cmpR (zneD K hr.units) (pv 6) (pv 5) (nomark _)))))) (pss_one (ps_ret pe_bl)) pss_nil)
      (pss_one (ps_expr (pe_bm PySem.F.plainAttrs_list PySem.F.slot_list_append PySem.F.type_list_append mt_append (pv 7) (pa_cons pe_int pa_nil))))))))))))))
      (pss_one (ps_ret (pe_and (pe_cmpR (zeqD K hr.units) (pe_fn (k_counts T) (hr.mono (by decide)) (by rfl) pass0 (pa_cons (pe_lst pa_nil) pa_nil)) (pe_lst pa_nil) (nomark _)) (pe_one (pe_cmpR (zeqD K hr.units) (pe_fn (k_commonest T) (hr.mono (by decide)) (by rfl) pass0 (pa_cons (pe_lst pa_nil) pa_nil)) (pe_lst pa_nil) (nomark _))))))))))), ?_⟩
  obtain ⟨_, rfl, a, ns, rfl, hS, hlen, q⟩ := h
  -- the heap, how many of each, the pairs that are due, the most
  refine ⟨.ref a, rfl, _, rfl, a, ns, rfl, hS, hlen, fun H1 p L s1 np hp hL hz => ?_⟩
  have hg : Good L := ⟨by omega, fun z h => by have := hz z h; omega⟩
  refine ⟨.ref p, rfl, _, rfl, p, L, rfl, SqL.of hp, hg.len, fun H2 d s2 nd hd => ?_⟩
  refine ⟨.ref d, rfl, d, dk (tally L), (tally L).map (·.1), rfl, .inl hd, ?_, ?_, fun ys w pr so nw => ?_⟩
  · unfold dk
    rw [List.map_map, List.map_map]
    rfl
  · rw [List.length_map]
    have := tally_len L
    omega
  have ey := keys_sorted_eq pr so
  subst ey
  refine ⟨w, rfl, ⟨_, SqL.of upd_same⟩, fun D hD => ?_⟩
  have dw : d ≠ w := ne_of_none hd nw
  refine lc_fresh (L := (cn L).map (·.1)) (fun k => .tup [.int k, .int (L.count k)]) (by rw [← List.length_map (f := V.int)]; exact walk_list) hD (by rw [List.length_map]; have := cn_len L; omega) (fun _ _ s g => s.seq g) (SqL.of upd_same) ?_ (fun H3 ts s3 nts fts Dts oa hDl => ?_)
  · rintro i hi x H5 H6 s5 _ ⟨rfl, hx⟩ Z Zn z1
    rw [li_get hi] at hx
    obtain rfl := Option.some.inj hx
    have hd5 : H6 d = some (.dK (dk (tally L))) := s5 _ _ (by rw [upd_ne dw]; exact hd)
    have hmem : ((cn L).map (·.1))[i] ∈ L := by
      obtain ⟨p, hp, e⟩ := List.mem_map.mp (List.getElem_mem hi)
      rw [← e]
      exact (mem_cn.mp hp).1
    refine ⟨rfl, _, rfl, .ref d, rfl, _, rfl, d, .int (L.count ((cn L).map (·.1))[i]), rfl, .inl ⟨_, Sum.inl ((cn L).map (·.1))[i], .inl hd5, rfl, ?_⟩, by show 2 ≤ sizeLine; decide, fun t nt => z1 t _ nt upd_same (same_upd nt)⟩
    have := List.one_le_count_iff.mpr hmem
    rw [dk_val, tally_lk, if_neg (by omega)]
    rfl
  have ta : TupsAt K H3 ts (cn L) := by
    rw [← cn_keys_map L]
    exact tups_of_map oa
  clear oa
  have s13 : Same H1 H3 := (s2.trans (same_upd nw)).trans s3
  refine ⟨.ref p, rfl, _, rfl, p, L, rfl, SqL.of (s13 _ _ hp), hg.len, fun H4 s4 => ?_⟩
  -- the four lists
  have hp4 := s4 _ _ (s13 _ _ hp)
  have hD4 := s4 _ _ hDl
  have ta4 := ta.same s4
  refine ⟨.ref p, rfl, .ref p, rfl, p, LI L, rfl, SqL.of hp4, fun r nr => ?_⟩
  have hp5 := same_upd (o := .lst (LI L).reverse) nr _ _ hp4
  refine ⟨.ref p, rfl, p, L, rfl, SqL.of hp5, fun ns' u pr' so' nu => ?_⟩
  have e' := sorted_eq pr' so'
  subst e'
  refine ⟨.ref p, rfl, by show 4 ≤ sizeLine; decide, fun t nt => ?_⟩
  have s46 : Same H4 (upd (upd (upd H4 r (.lst (LI L).reverse)) u (.lst (LI (srt L)))) t (.tup [.ref p, .ref r, .ref u, .ref p])) := ((same_upd nr).trans (same_upd nu)).trans (same_upd nt)
  have hr6 := same_upd (o := .tup [.ref p, .ref r, .ref u, .ref p]) nt _ _ (same_upd (o := .lst (LI (srt L))) nu _ _ (upd_same (H := H4) (a := r) (o := .lst (LI L).reverse)))
  have hu6 := same_upd (o := .tup [.ref p, .ref r, .ref u, .ref p]) nt _ _ (upd_same (H := upd H4 r (.lst (LI L).reverse)) (a := u) (o := .lst (LI (srt L))))
  refine ⟨t, rfl, ⟨_, SqT.of upd_same⟩, ?_⟩
  have ht6 := upd_same (H := upd (upd H4 r (.lst (LI L).reverse)) u (.lst (LI (srt L)))) (a := t) (o := .tup [.ref p, .ref r, .ref u, .ref p])
  generalize upd (upd (upd H4 r (.lst (LI L).reverse)) u (.lst (LI (srt L)))) t (.tup [.ref p, .ref r, .ref u, .ref p]) = H6 at s46 hr6 hu6 ht6
  have hp6 := s46 _ _ hp4
  have hD6 := s46 _ _ hD4
  have ta6 := ta4.same s46
  clear s46 hp4 hD4 ta4 hp5 hDl ta
  refine for_it (walk_tup (xs := [.ref p, .ref r, .ref u, .ref p])) (fun i σ H' => ∃ y5 y6 y7 y8 y9 y10 y11, σ = [some (.ref a), some (.ref p), some (.ref d), some (.ref D), some (.int (mostI L)), y5, y6, y7, y8, y9, y10, y11] ∧ Same H6 H')
    ⟨_, _, _, _, _, _, _, rfl, Same.refl _⟩ (fun i σ H' _ ⟨_, _, _, _, _, _, _, _, s⟩ => SqT.of (s _ _ ht6)) ?_ ?_
  · rintro i x σ _ H7 hi ⟨y5, y6, y7, y8, y9, y10, y11, rfl, s7⟩ ⟨rfl, hx⟩
    obtain ⟨b, M, rfl, hb, hM⟩ : ∃ b M, x = .ref b ∧ H7 b = some (.lst (LI M)) ∧ M.Perm L := by
      have rev : LI L.reverse = (LI L).reverse := by simp [LI]
      match i, hi, hx with
      | 0, _, hx => exact ⟨p, L, (Option.some.inj hx).symm, s7 _ _ hp6, .refl _⟩
      | 1, _, hx => exact ⟨r, L.reverse, (Option.some.inj hx).symm, by rw [rev]; exact s7 _ _ hr6, L.reverse_perm⟩
      | 2, _, hx => exact ⟨u, srt L, (Option.some.inj hx).symm, s7 _ _ hu6, srt_perm L⟩
      | 3, _, hx => exact ⟨p, L, (Option.some.inj hx).symm, s7 _ _ hp6, .refl _⟩
    have gM := hg.perm hM
    have ec : cn M = cn L := cn_of_perm hM
    have em : cmn M = cmn L := cmn_perm hM
    -- handed, found
    refine ⟨.ref b, rfl, b, LI M, rfl, .inl (SqL.of hb), fun l nl => ?_⟩
    refine ⟨.ref l, rfl, _, rfl, l, M, rfl, SqL.of upd_same, gM, fun H8 f tf s8 nf ntf ftf hf hob => ?_⟩
    rw [ec] at hob
    have s78 : Same H7 H8 := (same_upd nl).trans s8
    have hl8 : H8 l = some (.lst (LI M)) := s8 _ _ upd_same
    have fl : f ≠ l := fun z => by rw [z, upd_same] at nf; cases nf
    have nf7 : H7 f = none := (same_upd nl).free nf
    have tb8 : TupsAt K H8 tf (cn L) := tups_of_objs hob
    have ltf := paired_len hob
    -- found is what is due
    refine ⟨.ref f, rfl, .ref f, .ty "list", _, .type "list", true, rfl, .ty _, ty_list (SqL.of hf), kit_ty (by decide +kernel), true, rfl, iteF ?_⟩
    have hD8 := s78 _ _ (s7 _ _ hD6)
    refine ⟨.ref f, rfl, .ref D, rfl, dT2 (cn L), dT2 (cn L), dp_t2 (SqL.of hf) tb8, dp_t2 (SqL.of hD8) ((ta6.same s7).same s78), shaped_dT2 _, shaped_dT2 _, false, by rw [eqv_dT2, decide_eq_true rfl]; rfl, iteF ?_⟩
    refine ⟨.ref f, rfl, f, rfl, ⟨_, SqL.of hf⟩, fun D2 hD2 => ?_⟩
    refine lc_pure (L := tf) (fun _ => some (.bl true)) (by rw [← List.length_map (f := V.ref)]; exact walk_list) hD2 (by have := cn_len L; omega) (fun _ _ s g => s.seq g) (SqL.of hf) ?_ (fun H9 s9 hr => ?_)
    · rintro j hj x H5 _ s5 _ ⟨rfl, hx⟩ Z Zn z1 z2
      obtain ⟨w, rfl, hw⟩ := tups_at (tb8.same s5) (by omega) hx
      exact ⟨rfl, _, rfl, _, .ty "tuple", _, .type "tuple", true, rfl, .ty _, ty_tup hw, kit_ty (by decide +kernel), z1 _ _ rfl (Same.refl _)⟩
    rw [fm_map] at hr
    refine ⟨D2, tf.map (fun _ => true), rfl, by rw [List.map_map]; exact SqL.of hr, true, by rw [all_map]; simp, iteF ?_⟩
    -- flat
    refine ⟨Nat.zero_le _, fun e ne => ?_⟩
    have hf9 := same_upd (o := .lst []) ne _ _ (s9 _ _ hf)
    refine ⟨.ref f, rfl, f, rfl, ⟨_, SqL.of hf9⟩, ?_⟩
    refine for_it (walk_list (xs := tf.map V.ref)) (fun j σ H' => ∃ z8, σ = [some (.ref a), some (.ref p), some (.ref d), some (.ref D), some (.int (mostI L)), some (.ref b), some (.ref l), some (.ref f), z8, some (.ref e), y10, y11] ∧ Same H9 H' ∧ H' e = some (.lst (LI (flatT ((cn L).take j)))))
      ⟨_, rfl, same_upd ne, upd_same⟩ (fun j σ H' _ ⟨_, _, s, _⟩ => SqL.of (s _ _ (s9 _ _ hf))) ?_ ?_
    · rintro j x σ _ H10 hj ⟨z8, rfl, s10, he⟩ ⟨rfl, hx⟩
      rw [List.length_map] at hj
      have hj' : j < (cn L).length := by omega
      obtain ⟨w, rfl, hw⟩ := tups_at ((tb8.same s9).same s10) hj' hx
      refine ⟨.ref e, rfl, .inl ⟨rfl, _, SqL.of he⟩, .ref w, rfl, e, w, _, _, rfl, rfl, he, hw, sz_le ?_, _, rfl, sm_put s10 ne, ?_⟩
      · have := flatT_len ((cn L).take j)
        rw [List.length_take] at this
        have h3 := cn_len L
        rw [LI, List.length_map, this]
        show _ + 2 ≤ _
        omega
      · rw [upd_same, List.take_add_one, List.getElem?_eq_getElem hj']
        show _ = some (HO.lst (LI (flatT (_ ++ [_]))))
        rw [flatT_snoc, LI, LI, List.map_append]
        rfl
    · rintro σ H10 ⟨z8, rfl, s10, he⟩
      rw [List.length_map, ltf, List.take_length] at he
      refine ⟨.ref e, rfl, _, rfl, e, _, rfl, SqL.of he, by rw [flatT_len]; have := cn_len L; omega, fun H11 s11 => ⟨true, rfl, iteF ?_⟩⟩
      have s9' : Same H8 H11 := (s9.trans s10).trans s11
      -- found.append((0, 0))
      refine ⟨.ref f, rfl, .inl ⟨rfl, _, SqL.of (s9' _ _ hf)⟩, by show 2 ≤ sizeLine; decide, fun z nz => ⟨f, _, _, rfl, rfl, same_upd nz _ _ (s9' _ _ hf), sz_lt (by rw [List.length_map]; have := cn_len L; omega), ?_⟩⟩
      have hl12 : upd (upd H11 z (.tup [.int 0, .int 0])) f (.lst (tf.map V.ref ++ [.ref z])) l = some (.lst (LI M)) := by
        rw [upd_ne fl.symm]
        exact same_upd nz _ _ (s9' _ _ hl8)
      have s12 : Same H7 (upd (upd H11 z (.tup [.int 0, .int 0])) f (.lst (tf.map V.ref ++ [.ref z]))) := sm_put ((s78.trans s9').trans (same_upd nz)) nf7
      -- commonest
      refine ⟨.ref l, rfl, _, rfl, l, M, rfl, SqL.of hl12, gM, fun H13 c s13 nc hc => ?_⟩
      rw [em] at hc
      refine ⟨.ref c, rfl, _, rfl, c, cmn L, rfl, SqL.of hc, by have := cmn_len L; omega, fun H14 s14 => ⟨true, rfl, iteF ?_⟩⟩
      have s714 : Same H7 H14 := (s12.trans s13).trans s14
      refine ⟨.ref c, rfl, .ref D, rfl, D, rfl, ⟨_, SqL.of (s714 _ _ (s7 _ _ hD6))⟩, fun D3 hD3 => ?_⟩
      have ta14 := (ta6.same s7).same s714
      have lts : ts.length = (cn L).length := paired_len ta14
      refine lc_pure (L := cn L) (fun q => if q.2 = mostI L then some (.int q.1) else none) (by rw [← lts, ← List.length_map (f := V.ref)]; exact walk_list) hD3 (by have := cn_len L; omega) (fun _ _ s g => s.seq g) (SqL.of (s714 _ _ (s7 _ _ hD6))) ?_ (fun H15 s15 hr15 => ?_)
      · rintro j hj x H5 _ s5 _ ⟨rfl, hx⟩ Z Zn z1 z2
        obtain ⟨w, rfl, hw⟩ := tups_at (ta14.same s5) hj hx
        refine ⟨w, _, rfl, hw, rfl, _, _, rfl, _, _, rfl, rfl, rfl, _, rfl, .int (mostI L), rfl, rfl, _, rfl, ite2 (fun e => ?_) (fun e => ?_)⟩
        · have e' := V.int.inj (of_decide_eq_true e)
          exact ⟨_, rfl, z1 _ _ (if_pos e') (Same.refl _)⟩
        · exact z2 _ (if_neg fun z => e (decide_eq_true (congrArg V.int z))) (Same.refl _)
      · rw [fm_filter] at hr15
        refine ⟨dI (cmn L), dI (cmn L), dp_li (SqL.of (s15 _ _ (s14 _ _ hc))), dp_li (SqL.of hr15), shaped_dI _, shaped_dI _, false, by rw [eqv_dI, decide_eq_true rfl]; rfl, iteF ?_⟩
        have hl15 := s15 _ _ (s14 _ _ (s13 _ _ hl12))
        have hb15 := s15 _ _ (s714 _ _ hb)
        refine ⟨.ref l, rfl, .ref b, rfl, dI M, dI M, dp_li (SqL.of hl15), dp_li (SqL.of hb15), shaped_dI _, shaped_dI _, false, by rw [eqv_dI, decide_eq_true rfl]; rfl, iteF ?_⟩
        -- found.append(0)
        refine ⟨.ref c, rfl, .inl ⟨rfl, _, SqL.of (s15 _ _ (s14 _ _ hc))⟩, c, _, _, rfl, rfl, s15 _ _ (s14 _ _ hc), sz_lt (by rw [LI, List.length_map]; have := cmn_len L; omega), ?_⟩
        exact ⟨_, _, _, _, _, _, _, rfl, sm_put (s7.trans (s714.trans s15)) (s7.free (s12.free nc))⟩
  · rintro σ H7 ⟨y5, y6, y7, y8, y9, y10, y11, rfl, s7⟩
    have e0 : cn [] = [] := by simp [cn, srt, tally]
    have e1 : cmn [] = [] := by simp [cmn, e0]
    refine ⟨Nat.zero_le _, fun e ne => ⟨_, rfl, e, [], rfl, SqL.of upd_same, good_nil, fun H8 f tf s8 nf ntf ftf hf hob => ?_⟩⟩
    rw [e0] at hob
    cases hob
    refine ⟨Nat.zero_le _, fun e2 ne2 => ⟨dI [], dI [], dp_li (SqL.of (same_upd ne2 _ _ hf)), dp_li (SqL.of upd_same), shaped_dI _, shaped_dI _, true, by rw [eqv_dI, decide_eq_true rfl], iteT ?_⟩⟩
    refine ⟨Nat.zero_le _, fun e3 ne3 => ⟨_, rfl, e3, [], rfl, SqL.of upd_same, good_nil, fun H9 f2 s9 nf2 hf2 => ?_⟩⟩
    rw [e1] at hf2
    refine ⟨Nat.zero_le _, fun e4 ne4 => ⟨dI [], dI [], dp_li (SqL.of (same_upd ne4 _ _ hf2)), dp_li (SqL.of upd_same), shaped_dI _, shaped_dI _, ?_⟩⟩
    rw [eqv_dI, decide_eq_true rfl]
    exact q _
end
abbrev stepsN : Nat := 3000
abbrev levelN : Nat := 4
def loose0 : List PySem.Str := ["is_number", "check_heap", "counts_of", "counts", "commonest", "_law_cell_at", "_law_draw", "_law_heap", "_law_many", "_law_most", "_law_numbers", "HeapError", "BadHeap", "GREATEST", "THINGS"]
def looseN : List PySem.Str := loose0
abbrev Rw : PySem.W.OpenRow := PySem.W.OpenLaw.row PySem.Challenge.rw_apartrow_k06_counts
abbrev hk : PySem.W.Hook := He.hookX 6 fa fn [] tf exB
def ob (s : PySem.W.SharedT) : He.AlX := He.obsX 6 fa fn [] tf exB (HandSHeadRun.getT s)
theorem ob_eq (s : PySem.W.SharedT) : ob s = hk.obs s.abs := He.obsX_eq (HandSHeadRun.getT_eq s)
set_option maxHeartbeats 0 in
theorem run (w : World) : HandSHeadRun.RunEq Rw (PySem.W.view Rw.prog [18]) hk ob 3000 looseN w := by
  intro os
  kernel_rfl
theorem at_law {w : World} {h : Heap} {mg : Str → Option Value} {f : Addr} (Y : hk.says w h) (G : h.Ns mainGlobals mg) (hfa : mg ("law" : Str) = some (.ref f)) :
    ∃ K : PySem.W.Frag, K.In h ∧ LamX.LawAtS PySem.Challenge.rw_apartrow_k06_counts w K CX0 4 63 "_law_script" mg f h := by
  obtain ⟨K, X, c⟩ := Y
  obtain ⟨fd, F⟩ := c.t.d.def_ 11 rfl
  have e := hfa.symm.trans (He.glo_ok X G (c.t.d.fact 22 (f := .glo "law") rfl))
  cases e
  refine ⟨K, X, fd, tf.map (He.cT K), sp_law K, fun p hp => ?_, fun p hp => ?_, fun p hp => ?_, ?_, fun H a ns hl hb hT hS => ?_, fun base X' G' tb => ?_⟩
  · obtain ⟨z, hz, rfl⟩ := List.mem_map.mp hp
    exact c.empty z hz
  · obtain ⟨z, hz, rfl⟩ := List.mem_map.mp hp
    exact c.out z hz
  · obtain ⟨z, hz, rfl⟩ := List.mem_map.mp hp
    exact PySem.W.codeHd_of_K X (c.hd z hz)
  · have b := FunD.bindsA (ps := ["_law_script"]) F fun _ _ _ _ _ _ us hl => match us, hl with | [_], _ => rfl
    exact fun s v => b s [v] rfl
  · exact law_start H a ns hl (fun p hp => hT _ (List.mem_map_of_mem hp)) hS
  · exact ok_law F ⟨c.t.d, c.more, ⟨base, X', G'⟩, fun p hp => tb _ (List.mem_map_of_mem hp)⟩
end Ap
open PySem PySem.W PySem.Calls PyProof.Rows
set_option maxHeartbeats 0 in
theorem PySem.Challenge.cw_apartrow_k06_counts_holds : PySem.Challenge.rw_apartrow_k06_counts.Holds := by
  w_on; o_law
  refine HandSHeadRun.head_any (r := OpenLaw.row PySem.Challenge.rw_apartrow_k06_counts) (q := view (OpenLaw.row PySem.Challenge.rw_apartrow_k06_counts).prog [18]) (H := Ap.hk) (ob := Ap.ob) (M := Ap.stepsN) (loose := Ap.looseN) (d := HandSHeadRun.topDef (OpenLaw.row PySem.Challenge.rw_apartrow_k06_counts).prog 18) (kwd := []) Ap.ob_eq
    (by kernel_rfl) (fun s => by kernel_rfl) Ap.run (by kernel_rfl) (by kernel_rfl) (by kernel_rfl) (by rfl) (by first | assumption | decide +kernel) (by decide +kernel) ⟨rfl, rfl, rfl, rfl, rfl, by decide +kernel⟩ ?hw ?hc
  case hw => w_witness2
  case hc =>
    refine LamX.walk_ofTsE (l := PySem.Challenge.rw_apartrow_k06_counts) (n := 63) (k := Ap.levelN) (x := "_law_script") (CX := fun _ => L2.CX0) rfl (by decide) (by kernel_rfl) ⟨rfl, by decide, by decide⟩ ?F (fun _ _ _ _ _ z => z)
    intro w mg fa h Y G hmg0
    have hmg : mg ("law" : PySem.Str) = some (.ref fa) := by
      have e : (HandSHeadRun.topDef (OpenLaw.row PySem.Challenge.rw_apartrow_k06_counts).prog 18).name = ("law" : PySem.Str) := by kernel_rfl
      rw [← e]
      exact hmg0
    exact Ap.at_law Y G hmg
