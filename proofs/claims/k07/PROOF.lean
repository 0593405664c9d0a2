import PyProof.Rows.All
import Wide.All
import OpenK.AllK
import Wide.FinOn
import KE.KStateDown
import Lean
import HandS.ForMost
import HandS.Exc
import HandS.Sort
import HandS.SortInts
import HandS.SortKw
import HandS.ListItems
import HandS.Conv
import HandS.Style
import HandS.IsInst
import HandS.Walk
import HandS.Flow
import HandS.Zip
import HandS.Deep
import HandS.SetFor
import HandS.RevRange
import HandS.StrMore
import HandS.Defaults
import HandS.ExcOwn
import HandS.WordsExc
import HandS.TryOnly
import HandS.ExcIs
import HandS.ExcCtx
import HandS.Hot
import HandS.HotCalls
import HandS.Lambda
import HandS.Evl
import KE.SortKeyHeap
import KE.SortData
import HandS.Head0
import HandS.Head1
import HandS.Head2
import HandS.HeadEnd
import HandS.HeadHook1
import HandS.HeadHook2
import HandS.HeadHook3
import HandS.HeadHook4
import HandS.HeadWalk
import HandS.EndTab
import PySem.Challenge.RW_apartrow_k07_answers_by_hand
set_option Elab.async false
set_option linter.all false
set_option maxRecDepth 100000
set_option maxHeartbeats 4000000
namespace Ap
open PySem PySem.Spec PyProof.Rows L2
/-! ### the top's facts, a def, a method, a class by its name -/
structure Top (fa : List He.Fa) (fn : List He.DefD) (ex : PySem.W.Frag → Bool) (tf : List He.Defn) (K : PySem.W.Frag) (mg : Str → Option Value) (base : Heap) : Prop where
  d : He.SaysD fa fn K
  ex : ex K = true
  g : ∃ h, K.In h ∧ h.Ns mainGlobals mg
  tb : ∀ p ∈ tf, LamX.TabB base mg (He.cT K p).1 (He.cT K p).2
section
variable {fa : List He.Fa} {fn : List He.DefD} {ex : PySem.W.Frag → Bool} {tf : List He.Defn} {K : PySem.W.Frag} {mg : Str → Option Value} {base : Heap}
theorem Top.free (T : Top fa fn ex tf K mg base) (i : Nat) {x : Str} (h : fa[i]? = some (.free x) := by rfl) : mg x = none := by
  obtain ⟨hp, X, G⟩ := T.g
  exact He.free_ok X G (T.d.fact i h)
theorem Top.glo (T : Top fa fn ex tf K mg base) (i : Nat) {x : Str} (h : fa[i]? = some (.glo x) := by rfl) : mg x = some (.ref (He.ga K x)) := by
  obtain ⟨hp, X, G⟩ := T.g
  exact He.glo_ok X G (T.d.fact i h)
theorem Top.int (T : Top fa fn ex tf K mg base) (i : Nat) {x : Str} {n : Int} (h : fa[i]? = some (.int x n) := by rfl) : ∃ t, mg x = some (.int n t) := by
  obtain ⟨hp, X, G⟩ := T.g
  exact He.int_ok X G (T.d.fact i h)
theorem Top.str (T : Top fa fn ex tf K mg base) (i : Nat) {x z : Str} (h : fa[i]? = some (.str x z) := by rfl) : ∃ t, mg x = some (.str z t) := by
  obtain ⟨hp, X, G⟩ := T.g
  exact He.str_ok X G (T.d.fact i h)
end
/-- an own exception class over ValueError -/
abbrev ExcC (K : PySem.W.Frag) (x : Str) : Prop := PySem.W.excIn K (He.ga K x) He.veBase "ValueError.__new__" = true ∧ PySem.W.keepIn K (.ref (He.ga K x)) = true ∧ PySem.W.subIn K (.ref (He.ga K x)) (.type "BaseException") = some true ∧
    PySem.W.typeIn K (.ref (He.ga K x)) = some (.type "type")
/-- a def of the module by its name keeps sp -/
def DefOk (P : Program) (w : World) (K : PySem.W.Frag) (mg : Str → Option Value) (base : Heap) (CX : CXT) (k : Nat) (x : Str) (ps : List Str) (sp : Sp) : Prop :=
  ∃ fd, FnOk P w K mg base CX k (He.ga K x) fd ps sp ∧ Binds K fd ps [] ∧ PySem.W.keepIn K (.ref (He.ga K x)) = true ∧ mg x = some (.ref (He.ga K x))
/-- a method -/
def MetOk (P : Program) (w : World) (K : PySem.W.Frag) (mg : Str → Option Value) (base : Heap) (CX : CXT) (k : Nat) (C m : Str) (ps : List Str) (sp : Sp) : Prop :=
  ∃ f fd, FnOk P w K mg base CX k f fd ps sp ∧ Binds K fd ps [] ∧ Cls K (He.ga K C) ∧ Meth K (He.ga K C) m f
/-- a class, by its __init__ -/
def MakOk (P : Program) (w : World) (K : PySem.W.Frag) (mg : Str → Option Value) (base : Heap) (CX : CXT) (k : Nat) (C : Str) (ps : List Str) (sp : Sp) : Prop :=
  ∃ f fd, FnOk P w K mg base CX k f fd ps sp ∧ Binds K fd ps [] ∧ Mk K (He.ga K C) f ∧ mg C = some (.ref (He.ga K C))
section
variable {X : Cx} {CX : CXT} {k : Nat} {C m x : Str} {ps : List Str} {sp : Sp} {E : XK} {p pos apos : Pos} {e o : Expr} {es : List Expr} {ta : TE} {t : TA}
theorem pe_fn (D : DefOk X.prog X.w X.K X.mg X.base CX k x ps sp) (hr : Room k X.A) (hg : Gl X x) (hx : Passes CX X E) (ha : PA X (e :: es) t) (hdb : (x == ("__debug__" : Str)) = false := by decide)
    (he : starEach (e :: es) X.env = (false, eval e X.env) :: starEach es X.env := by rfl) (hpl : (backTo pos (starEach es X.env)).any (·.1) = false := by rfl) : PE X (.Call (.Name x p) (e :: es) [] pos) (tCall sp [] E t) := by
  obtain ⟨fd, F, b, kp, hm⟩ := D
  exact pe_call F hr hg hm kp b .nil hx ha hdb he hpl
theorem pe_fn0 (D : DefOk X.prog X.w X.K X.mg X.base CX k x ps sp) (hr : Room k X.A) (hg : Gl X x) (hx : Passes CX X E) (hdb : (x == ("__debug__" : Str)) = false := by decide) : PE X (.Call (.Name x p) [] [] pos) (tCall sp [] E tNil) := by
  obtain ⟨fd, F, b, kp, hm⟩ := D
  exact pe_call0 F hr hg hm kp b .nil hx hdb
theorem pe_mt {pl : Sem Bool} (M : MetOk X.prog X.w X.K X.mg X.base CX k C m ps sp) (hr : Room k X.A) (hx : Passes CX X E) (he : PE X o ta) (ha : PA X (e :: es) t)
    (hst : starEach (e :: es) X.env = (false, eval e X.env) :: starEach es X.env := by rfl) (hpl : (backTo pos (starEach es X.env)).any (·.1) = false := by rfl)
    (ht : eval (.Call (.Attribute o m apos) (e :: es) [] pos) X.env = (do
      let ov ← eval o X.env
      standAt apos.atName
      let (f, first) ← holding [ov] (getMethod ov m pl)
      callWith pos f first (backTo pos (starEach (e :: es) X.env)) (backToKw pos (keywordEach [] X.env))) := by rfl) :
    PE X (.Call (.Attribute o m apos) (e :: es) [] pos) (tMeth (He.ga X.K C) m sp [] E ta t) := by
  obtain ⟨f, fd, F, b, c, mt⟩ := M
  exact pe_meth he c mt F hr b .nil hx ha hst hpl ht
theorem pe_mk (M : MakOk X.prog X.w X.K X.mg X.base CX k C ps sp) (hr : Room (k + 1) X.A) (hg : Gl X C) (hx : Passes CX X E) (ha : PA X (e :: es) t) (hdb : (C == ("__debug__" : Str)) = false := by decide)
    (he : starEach (e :: es) X.env = (false, eval e X.env) :: starEach es X.env := by rfl) (hpl : (backTo pos (starEach es X.env)).any (·.1) = false := by rfl) : PE X (.Call (.Name C p) (e :: es) [] pos) (tMake (He.ga X.K C) sp [] E t) := by
  obtain ⟨f, fd, F, b, mk, hm⟩ := M
  exact pe_make mk F hr hg hm b .nil hx ha hdb he hpl
end
/-! ### promises by the number of arguments -/
def sp1 (f : V → Hp → VK → XK → Prop) : Sp := fun vs H Q E => ∃ x, vs = [x] ∧ f x H Q E
def sp2 (f : V → V → Hp → VK → XK → Prop) : Sp := fun vs H Q E => ∃ x y, vs = [x, y] ∧ f x y H Q E
def sp3 (f : V → V → V → Hp → VK → XK → Prop) : Sp := fun vs H Q E => ∃ x y z, vs = [x, y, z] ∧ f x y z H Q E
def sp4 (f : V → V → V → V → Hp → VK → XK → Prop) : Sp := fun vs H Q E => ∃ x y z u, vs = [x, y, z, u] ∧ f x y z u H Q E
theorem len1 {f : V → Hp → VK → XK → Prop} : ∀ vs H Q E, sp1 f vs H Q E → vs.length = 1 := fun _ _ _ _ ⟨_, e, _⟩ => by rw [e]; rfl
theorem len2 {f : V → V → Hp → VK → XK → Prop} : ∀ vs H Q E, sp2 f vs H Q E → vs.length = 2 := fun _ _ _ _ ⟨_, _, e, _⟩ => by rw [e]; rfl
theorem len3 {f : V → V → V → Hp → VK → XK → Prop} : ∀ vs H Q E, sp3 f vs H Q E → vs.length = 3 := fun _ _ _ _ ⟨_, _, _, e, _⟩ => by rw [e]; rfl
theorem len4 {f : V → V → V → V → Hp → VK → XK → Prop} : ∀ vs H Q E, sp4 f vs H Q E → vs.length = 4 := fun _ _ _ _ ⟨_, _, _, _, e, _⟩ => by rw [e]; rfl
/-! ### heaps -/
abbrev LI (L : List Int) : List V := L.map V.int
theorem same_upd {H : Hp} {p : Addr} {o : HO} (h : H p = none) : Same H (upd H p o) := fun b x e => by
  rw [upd_ne (ne_of_none e h)]
  exact e
theorem sm_put {H H' : Hp} {p : Addr} {o : HO} (s : Same H H') (h : H p = none) : Same H (upd H' p o) := fun b x e => by
  rw [upd_ne (ne_of_none e h)]
  exact s _ _ e
theorem sm_tup {K : PySem.W.Frag} {H H' : Hp} {a : Addr} {xs : List V} (e : Same H H') (h : SqT K H a xs) : SqT K H' a xs := by
  rcases h with (h | ⟨o, h⟩) | h
  · exact .inl (.inl (e _ _ h))
  · exact .inl (.inr ⟨o, e _ _ h⟩)
  · exact .inr h
theorem sz_le {n : Nat} (h : n ≤ 1000000) : n ≤ sizeLine := by rw [sizeLine_eq]; omega
theorem sz_lt {n : Nat} (h : n < 1000000) : n < sizeLine := by rw [sizeLine_eq]; omega
theorem li_get {L : List Int} {i : Nat} (h : i < L.length) : (LI L)[i]? = some (.int L[i]) := by
  rw [List.getElem?_map, List.getElem?_eq_getElem h]
  rfl
theorem li_inv {L : List Int} {i : Nat} {v : V} (h : (LI L)[i]? = some v) : ∃ n, L[i]? = some n ∧ v = .int n := by
  rw [List.getElem?_map] at h
  cases e : L[i]? with
  | none => rw [e] at h; cases h
  | some n => rw [e] at h; exact ⟨n, rfl, (Option.some.inj h).symm⟩
theorem li_snoc {L : List Int} {z : Int} : LI L ++ [V.int z] = LI (L ++ [z]) := by simp [LI]
/-! ### the law's heap -/
def cellAt (ns : List Int) (k : Int) : Int := (ns[k.toNat]?).getD 0
def primes : List Int := [1000003, 1000033, 1000037, 1000039, 1000081, 1000099, 1000117, 1000121, 1000133, 1000151, 1000159, 1000171, 1000183, 1000187, 1000193, 1000199]
def draw (c k m : Int) : Int := (c * 48271 + k * 69621) % (primes.getD (k % 16).toNat 1) % m
/-! ### sorted, tables of counts -/
def srt (L : List Int) : List Int := L.mergeSort (fun a b => decide (a ≤ b))
theorem srt_perm (L : List Int) : (srt L).Perm L := List.mergeSort_perm L _
theorem srt_sorted (L : List Int) : (srt L).Pairwise (· ≤ ·) := by
  have h := List.pairwise_mergeSort (le := fun a b : Int => decide (a ≤ b)) (fun a b c h1 h2 => by simp at *; omega) (fun a b => by simp; omega) L
  exact h.imp fun h => by simpa using h
theorem sorted_eq {l L : List Int} (p : l.Perm L) (s : l.Pairwise (· ≤ ·)) : l = srt L :=
  List.Perm.eq_of_pairwise (le := fun a b : Int => a ≤ b) (fun a b _ _ h1 h2 => Int.le_antisymm h1 h2) s (srt_sorted L) (p.trans (srt_perm L).symm)
theorem srt_eq_iff {L M : List Int} : srt L = srt M ↔ L.Perm M := by
  constructor
  · intro h
    exact ((srt_perm L).symm.trans (h ▸ List.Perm.refl _)).trans (srt_perm M)
  · intro h
    exact sorted_eq ((srt_perm L).trans h) (srt_sorted L)
theorem srt_len (L : List Int) : (srt L).length = L.length := (srt_perm L).length_eq
theorem srt_count (L : List Int) (k : Int) : (srt L).count k = L.count k := (srt_perm L).count_eq k
theorem srt_mem (L : List Int) {k : Int} : k ∈ srt L ↔ k ∈ L := (srt_perm L).mem_iff
/-- a table of ints -/
abbrev Tab := List (Int × Int)
def lk : Tab → Int → Option Int
  | [], _ => none
  | p :: r, k => if p.1 = k then some p.2 else lk r k
def pu : Tab → Int → Int → Tab
  | [], k, v => [(k, v)]
  | p :: r, k, v => if p.1 = k then (k, v) :: r else p :: pu r k v
/-- as the layer has it -/
def dk (d : Tab) : List (Key × V) := d.map fun p => (Sum.inl p.1, V.int p.2)
theorem dk_len (d : Tab) : (dk d).length = d.length := List.length_map _
theorem key_inl {a b : Int} : (Sum.inl a : Key) = Sum.inl b ↔ a = b := ⟨fun h => Sum.inl.inj h, fun h => by rw [h]⟩
theorem dk_val (d : Tab) (k : Int) : valV (dk d) (Sum.inl k) = (lk d k).map V.int := by
  induction d with
  | nil => rfl
  | cons p r ih =>
    show valV ((Sum.inl p.1, V.int p.2) :: dk r) (Sum.inl k) = _
    by_cases e : p.1 = k
    · rw [valV_pos (by rw [e])]
      simp [lk, e]
    · rw [valV_neg (fun z => e (key_inl.mp z)), ih]
      simp [lk, e]
theorem keys_lk {d : Tab} {k : Int} : k ∈ d.map (·.1) ↔ (lk d k).isSome = true := by
  induction d with
  | nil => simp [lk]
  | cons p r ih =>
    by_cases e : p.1 = k
    · simp [lk, e]
    · have : ¬ k = p.1 := fun z => e z.symm
      rw [List.map_cons, List.mem_cons, ih]
      simp [lk, e, this]
theorem pu_new {d : Tab} {k : Int} (v : Int) (h : lk d k = none) : pu d k v = d ++ [(k, v)] := by
  induction d with
  | nil => rfl
  | cons p r ih =>
    by_cases e : p.1 = k
    · simp [lk, e] at h
    · simp [lk, e] at h
      simp [pu, e, ih h]
theorem dk_put (d : Tab) (k v : Int) (hn : (d.map (·.1)).Nodup) : putK (dk d) (Sum.inl k) (.int v) = dk (pu d k v) := by
  cases hv : lk d k with
  | none =>
    have : valV (dk d) (Sum.inl k) = none := by rw [dk_val, hv]; rfl
    rw [putK_new _ this, pu_new v hv]
    simp [dk]
  | some x =>
    have h1 : (valV (dk d) (Sum.inl k)).isSome = true := by rw [dk_val, hv]; rfl
    unfold putK
    rw [valV_any, h1, if_pos rfl]
    clear h1
    induction d generalizing x with
    | nil => simp [lk] at hv
    | cons p r ih =>
      rw [List.map_cons, List.nodup_cons] at hn
      by_cases e : p.1 = k
      · have hr : ∀ q ∈ r, ¬ q.1 = k := fun q hq z => hn.1 (by rw [e, ← z]; exact List.mem_map_of_mem hq)
        have : (dk r).map (fun kv : Key × V => if kv.1 = Sum.inl k then (kv.1, V.int v) else kv) = dk r := by
          unfold dk
          rw [List.map_map]
          refine List.map_congr_left fun q hq => ?_
          have : ¬ (Sum.inl q.1 : Key) = Sum.inl k := fun z => hr q hq (key_inl.mp z)
          simp [this]
        show (if (Sum.inl p.1 : Key) = Sum.inl k then _ else _) :: (dk r).map _ = _
        rw [this, if_pos (by rw [e])]
        simp [pu, e, dk]
      · simp [lk, e] at hv
        have := ih hn.2 x hv
        show (if (Sum.inl p.1 : Key) = Sum.inl k then _ else _) :: (dk r).map _ = _
        rw [this, if_neg (fun z => e (key_inl.mp z))]
        simp [pu, e, dk]
theorem lk_pu (d : Tab) (k j v : Int) : lk (pu d k v) j = if j = k then some v else lk d j := by
  induction d with
  | nil =>
    by_cases e : j = k
    · simp [pu, lk, e]
    · have : ¬ k = j := fun z => e z.symm
      simp [pu, lk, e, this]
  | cons p r ih =>
    by_cases e : p.1 = k
    · subst e
      by_cases e2 : j = p.1
      · subst e2
        simp [pu, lk]
      · have : ¬ p.1 = j := fun z => e2 z.symm
        simp [pu, lk, this, e2]
    · by_cases e3 : p.1 = j
      · subst e3
        simp [pu, lk, e]
      · simp [pu, lk, e, e3, ih]
theorem pu_keys (d : Tab) (k v : Int) : (pu d k v).map (·.1) = if (lk d k).isSome = true then d.map (·.1) else d.map (·.1) ++ [k] := by
  induction d with
  | nil => simp [pu, lk]
  | cons p r ih =>
    by_cases e : p.1 = k
    · subst e
      simp [pu, lk]
    · simp [pu, lk, e, ih]
      split <;> rfl
theorem pu_nodup {d : Tab} (k v : Int) (hn : (d.map (·.1)).Nodup) : ((pu d k v).map (·.1)).Nodup := by
  rw [pu_keys]
  split
  · exact hn
  · rename_i h
    refine List.nodup_append.mpr ⟨hn, by simp, fun a ha b hb e => ?_⟩
    rw [List.mem_singleton.mp hb] at e
    rw [e] at ha
    exact h (keys_lk.mp ha)
theorem pu_len (d : Tab) (k v : Int) : (pu d k v).length ≤ d.length + 1 := by
  induction d with
  | nil => simp [pu]
  | cons p r ih =>
    simp only [pu]
    split <;> simp <;> omega
def step1 (d : Tab) (k : Int) : Tab := pu d k ((lk d k).getD 0 + 1)
def tally (l : List Int) : Tab := l.foldl step1 []
theorem tally_snoc (l : List Int) (k : Int) : tally (l ++ [k]) = step1 (tally l) k := by
  unfold tally
  rw [List.foldl_append]
  rfl
theorem snoc_ind {P : List Int → Prop} (h0 : P []) (hs : ∀ l k, P l → P (l ++ [k])) (l : List Int) : P l := by
  have : ∀ n (l : List Int), l.length = n → P l := by
    intro n
    induction n with
    | zero =>
      intro l e
      rw [List.length_eq_zero_iff.mp e]
      exact h0
    | succ n ih =>
      intro l e
      have hne : l ≠ [] := by
        intro z
        rw [z] at e
        cases e
      rw [← List.dropLast_concat_getLast hne]
      exact hs _ _ (ih _ (by rw [List.length_dropLast, e]; rfl))
  exact this _ l rfl
theorem tally_nodup (l : List Int) : ((tally l).map (·.1)).Nodup := by
  refine snoc_ind (P := fun l => ((tally l).map (·.1)).Nodup) (by simp [tally]) (fun l k h => ?_) l
  rw [tally_snoc]
  exact pu_nodup _ _ h
theorem tally_lk (l : List Int) (k : Int) : lk (tally l) k = if l.count k = 0 then none else some (l.count k : Int) := by
  refine snoc_ind (P := fun l => ∀ k, lk (tally l) k = if l.count k = 0 then none else some (l.count k : Int)) (by simp [tally, lk]) (fun l j h k => ?_) l k
  rw [tally_snoc, step1, lk_pu, h j, h k, List.count_append]
  by_cases e : k = j
  · subst e
    rw [if_pos rfl, List.count_singleton_self]
    by_cases z : l.count k = 0
    · simp [z]
    · simp [z]
  · have : List.count k [j] = 0 := by
      rw [List.count_eq_zero]
      simp [e]
    rw [if_neg e, this]
    rfl
theorem tally_mem {l : List Int} {k : Int} : k ∈ (tally l).map (·.1) ↔ k ∈ l := by
  rw [keys_lk, tally_lk]
  by_cases h : l.count k = 0
  · simp [h, List.count_eq_zero.mp h]
  · simp [h]
    exact List.one_le_count_iff.mp (by omega)
theorem tally_len (l : List Int) : (tally l).length ≤ l.length := by
  refine snoc_ind (P := fun l => (tally l).length ≤ l.length) (by simp [tally]) (fun l k h => ?_) l
  rw [tally_snoc, List.length_append]
  have := pu_len (tally l) k ((lk (tally l) k).getD 0 + 1)
  show (pu _ _ _).length ≤ l.length + 1
  omega
theorem lk_of_mem {d : Tab} (hn : (d.map (·.1)).Nodup) {p : Int × Int} (h : p ∈ d) : lk d p.1 = some p.2 := by
  induction d with
  | nil => cases h
  | cons q r ih =>
    rw [List.map_cons, List.nodup_cons] at hn
    rcases List.mem_cons.mp h with e | e
    · rw [e]
      simp [lk]
    · have : ¬ q.1 = p.1 := fun z => hn.1 (z ▸ List.mem_map_of_mem e)
      simp [lk, this, ih hn.2 e]
theorem mem_of_lk {d : Tab} {k v : Int} (h : lk d k = some v) : (k, v) ∈ d := by
  induction d with
  | nil => cases h
  | cons q r ih =>
    by_cases e : q.1 = k
    · simp [lk, e] at h
      rw [← e, ← h]
      exact List.mem_cons_self
    · simp [lk, e] at h
      exact List.mem_cons_of_mem _ (ih h)
theorem mem_tally {l : List Int} {p : Int × Int} : p ∈ tally l ↔ p.1 ∈ l ∧ p.2 = l.count p.1 := by
  constructor
  · intro h
    have h1 := lk_of_mem (tally_nodup l) h
    rw [tally_lk] at h1
    by_cases z : l.count p.1 = 0
    · rw [if_pos z] at h1
      cases h1
    · rw [if_neg z] at h1
      exact ⟨List.one_le_count_iff.mp (by omega), (Option.some.inj h1).symm⟩
  · intro ⟨h1, h2⟩
    have h3 : lk (tally l) p.1 = some p.2 := by
      have h4 := List.one_le_count_iff.mpr h1
      rw [tally_lk, if_neg (by omega), h2]
    exact mem_of_lk h3
/-- of a sorted list the keys rise -/
theorem tally_rise {l : List Int} (h : l.Pairwise (· ≤ ·)) : ((tally l).map (·.1)).Pairwise (· < ·) := by
  refine snoc_ind (P := fun l => l.Pairwise (· ≤ ·) → ((tally l).map (·.1)).Pairwise (· < ·)) (fun _ => by simp [tally]) (fun l k ih h => ?_) l h
  obtain ⟨h1, _, h2⟩ := List.pairwise_append.mp h
  rw [tally_snoc, step1, pu_keys]
  split
  · exact ih h1
  · rename_i z
    refine List.pairwise_append.mpr ⟨ih h1, by simp, fun a ha b hb => ?_⟩
    rw [List.mem_singleton.mp hb]
    have ha' := tally_mem.mp ha
    have hle := h2 a ha' k (by simp)
    have hne : a ≠ k := fun e => z (keys_lk.mp (e ▸ ha))
    omega
theorem nodup_of_map {α β : Type} {f : α → β} : ∀ {l : List α}, (l.map f).Nodup → l.Nodup
  | [], _ => List.nodup_nil
  | a :: r, h => by
    rw [List.map_cons, List.nodup_cons] at h
    exact List.nodup_cons.mpr ⟨fun m => h.1 (List.mem_map_of_mem m), nodup_of_map h.2⟩
theorem tally_perm {l m : List Int} (h : l.Perm m) : (tally l).Perm (tally m) := by
  refine (List.perm_ext_iff_of_nodup (nodup_of_map (tally_nodup l)) (nodup_of_map (tally_nodup m))).mpr fun p => ?_
  rw [mem_tally, mem_tally, h.mem_iff, h.count_eq]
/-- each kind and how many there are, rising -/
def cn (L : List Int) : Tab := tally (srt L)
theorem cn_nodup (L : List Int) : ((cn L).map (·.1)).Nodup := tally_nodup _
theorem cn_rise (L : List Int) : ((cn L).map (·.1)).Pairwise (· < ·) := tally_rise (srt_sorted L)
theorem mem_cn {L : List Int} {p : Int × Int} : p ∈ cn L ↔ p.1 ∈ L ∧ p.2 = L.count p.1 := by
  unfold cn
  rw [mem_tally, srt_mem, srt_count]
theorem cn_lk (L : List Int) (k : Int) : lk (cn L) k = if L.count k = 0 then none else some (L.count k : Int) := by
  unfold cn
  rw [tally_lk, srt_count]
theorem cn_len (L : List Int) : (cn L).length ≤ L.length := by
  have := tally_len (srt L)
  rw [srt_len] at this
  exact this
theorem cn_perm (L : List Int) : (cn L).Perm (tally L) := tally_perm (srt_perm L)
theorem cn_of_perm {L M : List Int} (h : L.Perm M) : cn L = cn M := by
  unfold cn
  rw [srt_eq_iff.mpr h]
/-! ### rules of our own: a dict walked that stands locked from then on; list(d.values()) -/
section
variable {X : Cx} {tg e : Expr} {td te : TE} {p pos apos cpos : Pos}
def tLk (td : TE) : TE := fun σ H Q => td σ H fun x H1 => ∃ d kvs, x = .ref d ∧ H1 d = some (.dK kvs) ∧ ∀ o, Q (.ref d) (upd H1 d (.frz o (.dK kvs)))
theorem pe_lk (he : PE X e td) : PE X e (tLk td) := by
  refine ⟨fun pins s σ H Q I h => ?_⟩
  refine thn (he.run pins s σ H _ I h) fun u s1 ⟨x, H1, I1, rx, d, kvs, ex, hd, q⟩ => ?_
  subst ex
  obtain ⟨od, I2⟩ := I1.lock hd True.intro
  exact ⟨.ref d, _, I2, rx, q od⟩
theorem pi_keysN (he : PE X e td) : PI X tg e (iKeys (tLk td)) := pi_keys (pe_lk he)
theorem pi_itemsN {elts : List Expr} {kk : Nat} {tpos : Pos} (he : PE X e td) (hbase : attributeBase e "items" X.env (eval e X.env) = eval e X.env := by rfl) (hline : (apos.endLine == cpos.line) = true := by rfl) :
    PI X (.Tuple elts kk tpos) (.Call (.Attribute e "items" apos) [] [] cpos) (iItems (tLk td)) := pi_items (pe_lk he) hbase hline
theorem pi_valuesN (he : PE X e td) (hbase : attributeBase e "values" X.env (eval e X.env) = eval e X.env := by rfl) (hline : (apos.endLine == cpos.line) = true := by rfl) :
    PI X tg (.Call (.Attribute e "values" apos) [] [] cpos) (iVals (tLk td)) := pi_values (pe_lk he) hbase hline
def tListVals (te : TE) : TE := fun σ H Q => te σ H fun x H1 => ∃ d kvs, x = .ref d ∧ H1 d = some (.dK kvs) ∧ ∀ p, H1 p = none → Q (.ref p) (upd H1 p (.lst (kvs.map (·.2))))
theorem pe_listVals (hc : X.calm = true) (he : PE X e te) (hg : Gl X "list") (hm : X.mg "list" = none) (hv : bootBuiltins "list" = some (.type "list") := by decide +kernel) (hbase : attributeBase e "values" X.env (eval e X.env) = eval e X.env := by rfl) (hline : (apos.endLine == cpos.line) = true := by rfl)
    (hs : starEach [.Call (.Attribute e "values" apos) [] [] cpos] X.env = (false, eval (.Call (.Attribute e "values" apos) [] [] cpos) X.env) :: starEach [] X.env := by rfl) :
    PE X (.Call (.Name "list" p) [.Call (.Attribute e "values" apos) [] [] cpos] [] pos) (tListVals te) := by
  refine ⟨fun pins s σ H Q I hq => ?_⟩
  refine wpAny_Call_Name_kw (ld_blt I hg hm hv ?_)
  refine PyProof.Rows.callWith_type1 ?_ hs rfl
  rw [hs]
  show wpAny _ _ (spliced ((false, eval (.Call (.Attribute e "values" apos) [] [] cpos) X.env) :: backTo pos (starEach [] X.env))) _ _ s
  refine Calls.spliced_cons ?_
  refine wpAny_Call_method (T := "dict") (id := "dict.values") hbase rfl hline F.plainAttrs_dict F.slot_dict_values F.type_dict_values (thn (he.run pins s σ H _ I hq) fun u s1 ⟨x, H1, I1, rx, d, kvs, ex, hd, q⟩ => ?_)
  subst ex
  obtain rfl : u = Value.ref d := rx
  obtain ⟨hz, hs0, vs, kv, hdo⟩ := I1.hok d _ hd
  obtain ⟨ep, hat⟩ := hdo.dictAt
  have lk : kvs.length = vs.length := Paired.length kv
  have I2 : Inv X pins σ H1 { s1 with heap := s1.heap.push { cls := .type "dict_values", data := .fields #[.ref d] } } := I1.kept (t' := s1.toks) fun b ob q => Heap.get?_push_of_some _ q
  refine ⟨hdo.typeIs, hdo.mapOf.noDict, ?_⟩
  show wpAny _ _ (callWith cpos (.builtin "dict.values") [.ref d] [] []) _ X.xe s1
  refine method_meetsIn F.slot_dict_values F.entry_dict_values rfl (PySem.evalArgs_none ⟨rfl, hdo.typeIs, F.args_dict_values_1 _, _, meets_dict_values (mixKind X.prog X.w) d hs0, ⟨vs, hdo⟩, ?_⟩)
  refine Calls.spliced_nil ?_
  refine PySem.W.kdl_call (PySem.W.kdl_values (knd := mixKind X.prog X.w) (kvs := vs) (ep := ep) (r := s1.heap.objs.size) (d := d)) (I1.ok.hd hc) ⟨⟨_, Heap.get?_push_size _ rfl, rfl, rfl⟩, hat.push _⟩ (by rw [← lk]; exact hz) fun h' tk acc' c' hkeep hS hacc => ?_
  refine ⟨.ref _, upd H1 _ (.lst (kvs.map (·.2))), I2.laid hkeep (Nat.le_refl _) (show ObjOk X.prog X.w _ _ _ (.lst (kvs.map (·.2))) from ⟨?_, acc'.toList, c', ?_, ?_⟩), rfl, q _ (I2.hok.fresh (Nat.le_refl _))⟩
  · rw [List.length_map]; exact hz
  · have el : acc'.toList.length = acc'.size := by simp
    refine vals_of_at (by rw [List.length_map, el, hacc.1, lk]) fun j x w h1 h2 => ?_
    obtain ⟨k, hky⟩ := hacc.2 j w (by rw [← Array.getElem?_toList]; exact h2)
    rw [List.getElem?_map] at h1
    cases e : kvs[j]? with
    | none => rw [e] at h1; cases h1
    | some kx =>
      rw [e] at h1
      obtain rfl : kx.2 = x := Option.some.inj h1
      obtain ⟨u, e2, r⟩ := kv_get kv e
      rw [hky] at e2
      obtain ⟨_, rfl⟩ := Prod.mk.inj (Option.some.inj e2)
      exact r
  · rw [Array.toArray_toList]; exact hS
end
/-! ### a comprehension whose turns leave what stood -/
section
variable {J : It} {G : Hp → Prop} {Y : Nat → Hp → V → Hp → Prop} {α : Type}
theorem lc_pure {L : List α} (F : α → Option V) (w : Walk J L.length G Y) {g : TG} {tt : TT} {te : TE} {vs : List Nat} {σ : L2.St} {H1 : Hp} {D : Addr} {Qd : Hp → Prop} (hD : H1 D = none) (hn : L.length ≤ 100000) (hS : ∀ H H', Same H H' → G H → G H') (hG : G H1)
    (hs : ∀ (i : Nat) (hi : i < L.length) x H H', Same H1 H → G H → Y i H x H' → ∀ (Z : V → Hp → Prop) (Zn : Hp → Prop), (∀ y H4, F L[i] = some y → Same H H4 → Z y H4) → (∀ H3, F L[i] = none → Same H H3 → Zn H3) →
      g x (wipe σ vs) H' fun σ2 H2 => wipe σ2 vs = wipe σ vs ∧ tt σ2 H2 fun b H3 => if b = true then te σ2 H3 Z else Zn H3)
    (hd : ∀ H', Same H1 H' → H' D = some (.lst (L.filterMap F)) → Qd H') :
    ∃ W : Nat → Nat → Hp → Prop, (∃ m, W 0 m (upd H1 D (.lst []))) ∧ ∀ i m H, W i m H →
      (J.stop i H ∧ Qd H) ∨ (J.go i H ∧ ∃ Nx : Hp → Prop, (∀ H', Nx H' → ∃ m', m' < m ∧ W (i + 1) m' H') ∧ ∀ x H', J.yld i H x H' → g x (wipe σ vs) H' fun σ2 H2 => wipe σ2 vs = wipe σ vs ∧ tt σ2 H2 fun b H3 =>
        if b = true then te σ2 H3 fun y H4 => ∃ acc, H4 D = some (.lst acc) ∧ acc.length < sizeLine ∧ Nx (upd H4 D (.lst (acc ++ [y]))) else Nx H3) := by
  have tk : ∀ i (hi : i < L.length), (L.take (i + 1)).filterMap F = (L.take i).filterMap F ++ (match F L[i] with | some y => [y] | none => []) := fun i hi => by
    rw [List.take_add_one, List.getElem?_eq_getElem hi, List.filterMap_append]
    show _ ++ List.filterMap F [L[i]] = _
    cases e : F L[i] <;> simp [e]
  refine lc_it w (fun i H => Same H1 H ∧ G H ∧ H D = some (.lst ((L.take i).filterMap F))) ⟨same_upd hD, hS _ _ (same_upd hD) hG, by rw [upd_same]; rfl⟩ (fun i H _ p => p.2.1) (fun i x H H' hi p y => ?_) (fun H p => hd H p.1 (by have := p.2.2; rw [List.take_length] at this; exact this))
  refine hs i hi x H H' p.1 p.2.1 y _ _ (fun y H4 e s => ?_) (fun H3 e s => ?_)
  · refine ⟨_, s _ _ p.2.2, ?_, sm_put (p.1.trans s) hD, hS _ _ (sm_put (p.1.trans s) hD) hG, ?_⟩
    · refine sz_lt ?_
      have h1 := List.length_filterMap_le F (L.take i)
      have h2 : (L.take i).length ≤ L.length := by rw [List.length_take]; omega
      omega
    · rw [upd_same, tk i hi, e]
  · refine ⟨p.1.trans s, hS _ _ s p.2.1, ?_⟩
    rw [s _ _ p.2.2, tk i hi, e, List.append_nil]
end
/-! ### what a value is -/
def isI : V → Bool
  | .int _ => true
  | .bl _ => true
  | _ => false
def isB : V → Bool
  | .bl _ => true
  | _ => false
def numOk (v : V) (lo hi : Int) : Bool := match v with
  | .int i => decide (lo ≤ i) && decide (i ≤ hi)
  | _ => false
/-- its type is known, and what isinstance says of int and bool -/
def NumTy (K : PySem.W.Frag) (H : Hp) (v : V) : Prop := ∃ t, TyX K H v t ∧ PySem.W.kitOne K t (.type "int") = some (isI v) ∧ PySem.W.kitOne K t (.type "bool") = some (isB v)
theorem numTy_int {K : PySem.W.Frag} {H : Hp} (i : Int) : NumTy K H (.int i) := ⟨_, .base (.int i), kit_ty (r := true) (by decide +kernel), kit_ty (r := false) (by decide +kernel)⟩
theorem numTy_non {K : PySem.W.Frag} {H : Hp} : NumTy K H .non := ⟨_, .base .non, kit_ty (r := false) (by decide +kernel), kit_ty (r := false) (by decide +kernel)⟩
theorem numTy_bl {K : PySem.W.Frag} {H : Hp} (b : Bool) : NumTy K H (.bl b) := ⟨_, .base (.bl b), kit_ty (r := true) (by decide +kernel), kit_ty (r := true) (by decide +kernel)⟩
theorem numTy_str {K : PySem.W.Frag} {H : Hp} (b : Str) : NumTy K H (.str b) := ⟨_, .base (.str b), kit_ty (r := false) (by decide +kernel), kit_ty (r := false) (by decide +kernel)⟩
theorem ty_list {K : PySem.W.Frag} {H : Hp} {a : Addr} {xs : List V} (h : SqL K H a xs) : TyX K H (.ref a) (.type "list") := by
  rcases h with (h | ⟨o, h⟩) | ⟨o, its, n, h, c, _⟩
  · exact .base (.lst h)
  · exact .base (.frz h)
  · exact .kList h c
theorem ty_tup {K : PySem.W.Frag} {H : Hp} {a : Addr} {xs : List V} (h : SqT K H a xs) : TyX K H (.ref a) (.type "tuple") := by
  rcases h with (h | ⟨o, h⟩) | ⟨o, its, n, h, c, _⟩
  · exact .base (.tup h)
  · exact .fTuple h
  · exact .kTuple h c
theorem numTy_list {K : PySem.W.Frag} {H : Hp} {a : Addr} {xs : List V} (h : SqL K H a xs) : NumTy K H (.ref a) := ⟨_, ty_list h, kit_ty (r := false) (by decide +kernel), kit_ty (r := false) (by decide +kernel)⟩
theorem numTy_tup {K : PySem.W.Frag} {H : Hp} {a : Addr} {xs : List V} (h : SqT K H a xs) : NumTy K H (.ref a) := ⟨_, ty_tup h, kit_ty (r := false) (by decide +kernel), kit_ty (r := false) (by decide +kernel)⟩
/-- a heap -/
structure Good (L : List Int) : Prop where
  len : L.length ≤ 100000
  rng : ∀ z ∈ L, 0 ≤ z ∧ z ≤ 999
theorem all_map {α : Type} {f : α → Bool} {l : List α} : (l.map f).all id = l.all f := by rw [List.all_map]; rfl
theorem any_map {α : Type} {f : α → Bool} {l : List α} : (l.map f).any id = l.any f := by rw [List.any_map]; rfl
theorem fm_map {α β : Type} {f : α → β} {l : List α} : l.filterMap (fun x => some (f x)) = l.map f := by
  induction l with
  | nil => rfl
  | cons a r ih => simp
/-! ### xs.extend(t), t a tuple -/
section
variable {X : Cx}
theorem ext_tup (l b : Addr) (items items2 : Array Value) (n : Nat) (hs : items.size + items2.size ≤ sizeLine) :
    Meets (Builtin.«list.extend» ⟨[.ref l, .ref b], []⟩) (fun _ R s => s.heap.get? l = some { cls := .type "list", dict := none, data := .seq items n, slots := #[] } ∧ IsTup s.heap b items2 ∧
      R (.ok (.ret Value.none)) { s with heap := s.heap.update l (Obj.mapSeq fun x => x ++ items2), toks := s.toks }) :=
  .of_wp fun prog w A R s h => by
    obtain ⟨hl, ⟨o, hb, hc, n2, hd⟩, h⟩ := h
    have hz' : (items ++ items2).size ≤ sizeLine + 1 := by rw [Array.size_append]; omega
    show wpAny _ _ (Builtin.List.listExtendWith (.ref l) (.ref b) .none) _ _ _
    unfold Builtin.List.listExtendWith
    refine wpAny_bind (wpAny_typeOf (T := "tuple") ⟨o, hb, hc⟩ ?_)
    have hT : (Builtin.List.listSameRef (.ref l) (.ref b) || Value.type "tuple" == Value.type "list" || Value.type "tuple" == Value.type "tuple") = true := by
      simp
    simp only [hT, if_true]
    unfold Builtin.List.listItems
    refine wpAny_bind (wpAny_bind (wpAny_seqItems hb hd (wpAny_pure ?_)))
    refine wpAny_bind (wpAny_bind (wpAny_seqItems hl rfl (wpAny_pure ?_)))
    have hlong : ¬ (!items.isEmpty && Builtin.List.listTooLong (items.size + items2.size)) = true := by
      rw [notLongL hs, Bool.and_false]
      exact Bool.false_ne_true
    simp only [if_neg hlong]
    refine wpAny_bind ?_
    show wpAny _ _ (updateSeq l (fun x => x ++ items2)) _ _ _
    refine wpAny_updateSeq hl rfl (hz := by omega) (_hz' := hz') ?_
    exact wpAny_pure ⟨_, rfl, h⟩
def rExtendT (K : PySem.W.Frag) : V → List V → Hp → VK → Prop := fun x vs H Q => ∃ l b xs zs, x = .ref l ∧ vs = [.ref b] ∧ H l = some (.lst xs) ∧ SqT K H b zs ∧ xs.length + zs.length ≤ sizeLine ∧ Q .non (upd H l (.lst (xs ++ zs)))
theorem mt_extendT : MtM X "list.extend" (rExtendT X.K) := by
  intro pins s σ H x vs v us Q I rx rv h
  obtain ⟨l, b, xs, zs, rfl, rfl, hH, hB, hz, q⟩ := h
  cases rx
  obtain ⟨u, rfl, ru⟩ := rv.one
  cases ru
  obtain ⟨z, its, n, r, hl, e⟩ := I.lstM hH
  obtain ⟨its2, r2, e2, z2⟩ := I.tuple hB
  have hl2 := r2.length
  refine call_meets F.slot_list_extend ⟨_, e, rfl⟩ F.entry_list_extend (F.args_list_extend_2 _ _)
    (ext_tup l b its.toArray its2.toArray n (by rw [List.size_toArray, List.size_toArray]; omega)) ⟨e, e2, ?_⟩
  refine ⟨.non, _, I.lset (its' := its ++ its2) hH e (by simp) (r.append r2) ?_, rfl, q⟩
  rw [List.length_append]
  omega
end
/-! ### data for == -/
def dI (L : List Int) : PyData := .list (L.map PyData.int)
def dT2 (T : Tab) : PyData := .list (T.map fun p => PyData.tuple [.int p.1, .int p.2])
theorem dpa_li {K : PySem.W.Frag} {H : Hp} : ∀ L : List Int, DpAll K H (LI L) (L.map PyData.int)
  | [] => .nil
  | z :: r => .cons (.int z) (dpa_li r)
theorem dp_li {K : PySem.W.Frag} {H : Hp} {a : Addr} {L : List Int} (h : SqL K H a (LI L)) : Dp K H (.ref a) (dI L) := .lst h (dpa_li L)
/-- the tuples of a table at ts -/
def TupsAt (K : PySem.W.Frag) (H : Hp) (ts : List Addr) (T : Tab) : Prop := Paired (fun (t : Addr) (p : Int × Int) => SqT K H t [.int p.1, .int p.2]) ts T
theorem dpa_t2 {K : PySem.W.Frag} {H : Hp} : ∀ {ts : List Addr} {T : Tab}, TupsAt K H ts T → DpAll K H (ts.map V.ref) (T.map fun p => PyData.tuple [.int p.1, .int p.2])
  | _, _, .nil => .nil
  | _, _, .cons h t => .cons (.tup h (.cons (.int _) (.cons (.int _) .nil))) (dpa_t2 t)
theorem dp_t2 {K : PySem.W.Frag} {H : Hp} {a : Addr} {ts : List Addr} {T : Tab} (h : SqL K H a (ts.map V.ref)) (t : TupsAt K H ts T) : Dp K H (.ref a) (dT2 T) := .lst h (dpa_t2 t)
theorem TupsAt.same {K : PySem.W.Frag} {H H' : Hp} (s : Same H H') : ∀ {ts : List Addr} {T : Tab}, TupsAt K H ts T → TupsAt K H' ts T
  | _, _, .nil => .nil
  | _, _, .cons h t => .cons (sm_tup s h) (TupsAt.same s t)
theorem lay_ints : ∀ L : List Int, PyData.canLayAll0 (L.map PyData.int) = true
  | [] => by simp [PyData.canLayAll0]
  | z :: r => by simp [PyData.canLayAll0, PyData.canLay0, lay_ints r]
theorem lay_t2 : ∀ T : Tab, PyData.canLayAll0 (T.map fun p => PyData.tuple [.int p.1, .int p.2]) = true
  | [] => by simp [PyData.canLayAll0]
  | p :: r => by simp [PyData.canLayAll0, PyData.canLay0, lay_t2 r]
theorem dep_ints : ∀ L : List Int, PyData.depthAll (L.map PyData.int) ≤ 1
  | [] => by simp [PyData.depthAll]
  | z :: r => by
    have := dep_ints r
    simp [PyData.depthAll, PyData.depth]
    omega
theorem dep_t2 : ∀ T : Tab, PyData.depthAll (T.map fun p => PyData.tuple [.int p.1, .int p.2]) ≤ 3
  | [] => by simp [PyData.depthAll]
  | p :: r => by
    have := dep_t2 r
    simp [PyData.depthAll, PyData.depth]
    omega
theorem shaped_dI (L : List Int) : SeqAt.shaped (dI L) = true := by
  have h1 := lay_ints L
  have h2 := dep_ints L
  simp [SeqAt.shaped, dI, PyData.canLay0, PyData.depth, h1]
  omega
theorem shaped_dT2 (T : Tab) : SeqAt.shaped (dT2 T) = true := by
  have h1 := lay_t2 T
  have h2 := dep_t2 T
  simp [SeqAt.shaped, dT2, PyData.canLay0, PyData.depth, h1]
  omega
theorem eqv_ints : ∀ L M : List Int, PyData.eqvAll (L.map PyData.int) (M.map PyData.int) = decide (L = M)
  | [], [] => by simp [PyData.eqvAll]
  | [], _ :: _ => by simp [PyData.eqvAll]
  | _ :: _, [] => by simp [PyData.eqvAll]
  | a :: r, b :: t => by
    simp only [List.map_cons, PyData.eqvAll, PyData.eqv, eqv_ints r t, List.cons.injEq]
    by_cases e : a = b <;> simp [e]
theorem eqv_dI (L M : List Int) : PyData.eqv (dI L) (dI M) = decide (L = M) := by
  simp only [dI, PyData.eqv, eqv_ints]
theorem eqv_t2 : ∀ L M : Tab, PyData.eqvAll (L.map fun p => PyData.tuple [.int p.1, .int p.2]) (M.map fun p => PyData.tuple [.int p.1, .int p.2]) = decide (L = M)
  | [], [] => by simp [PyData.eqvAll]
  | [], _ :: _ => by simp [PyData.eqvAll]
  | _ :: _, [] => by simp [PyData.eqvAll]
  | a :: r, b :: t => by
    obtain ⟨a1, a2⟩ := a
    obtain ⟨b1, b2⟩ := b
    simp only [List.map_cons, PyData.eqvAll, PyData.eqv, eqv_t2 r t, List.cons.injEq, Prod.mk.injEq]
    by_cases e : a1 = b1 <;> by_cases e2 : a2 = b2 <;> simp [e, e2]
theorem eqv_dT2 (L M : Tab) : PyData.eqv (dT2 L) (dT2 M) = decide (L = M) := by
  simp only [dT2, PyData.eqv, eqv_t2]
/-! ### a comprehension whose items are new objects -/
section
variable {J : It} {G : Hp → Prop} {Y : Nat → Hp → V → Hp → Prop} {α : Type}
/-- objects at ts, each as o says of its item -/
def ObjsAt (H : Hp) (o : α → HO) (ts : List Addr) (L : List α) : Prop := Paired (fun (t : Addr) (x : α) => H t = some (o x)) ts L
theorem ObjsAt.same {H H' : Hp} {o : α → HO} (s : Same H H') : ∀ {ts : List Addr} {L : List α}, ObjsAt H o ts L → ObjsAt H' o ts L
  | _, _, .nil => .nil
  | _, _, .cons h t => .cons (s _ _ h) (ObjsAt.same s t)
theorem ObjsAt.snoc {H : Hp} {o : α → HO} {t : Addr} {x : α} (h : H t = some (o x)) : ∀ {ts : List Addr} {L : List α}, ObjsAt H o ts L → ObjsAt H o (ts ++ [t]) (L ++ [x])
  | _, _, .nil => .cons h .nil
  | _, _, .cons k r => .cons k (ObjsAt.snoc h r)
theorem ObjsAt.mem {H : Hp} {o : α → HO} : ∀ {ts : List Addr} {L : List α}, ObjsAt H o ts L → ∀ t ∈ ts, ∃ x ∈ L, H t = some (o x)
  | _, _, .nil, t, h => by cases h
  | _, _, .cons k r, t, h => by
    rcases List.mem_cons.mp h with e | h
    · exact ⟨_, List.mem_cons_self, by rw [e]; exact k⟩
    · obtain ⟨x, h1, h2⟩ := ObjsAt.mem r t h
      exact ⟨x, List.mem_cons_of_mem _ h1, h2⟩
theorem ObjsAt.off {H H' : Hp} {o : α → HO} {ts : List Addr} {L : List α} (a : ObjsAt H o ts L) (h : ∀ t ∈ ts, H' t = H t) : ObjsAt H' o ts L := by
  induction a with
  | nil => exact .nil
  | @cons t x ts L k r ih =>
    refine .cons ?_ (ih fun t ht => h t (List.mem_cons_of_mem _ ht))
    rw [h t List.mem_cons_self]
    exact k
theorem lc_fresh {L : List α} (o : α → HO) (w : Walk J L.length G Y) {g : TG} {tt : TT} {te : TE} {vs : List Nat} {σ : L2.St} {H1 : Hp} {D : Addr} {Qd : Hp → Prop} (hD : H1 D = none) (hn : L.length ≤ 100000) (hS : ∀ H H', Same H H' → G H → G H') (hG : G H1)
    (hs : ∀ (i : Nat) (hi : i < L.length) x H H', Same H1 H → G H → Y i H x H' → ∀ (Z : V → Hp → Prop) (Zn : Hp → Prop), (∀ t H4, H t = none → H4 t = some (o L[i]) → Same H H4 → Z (.ref t) H4) →
      g x (wipe σ vs) H' fun σ2 H2 => wipe σ2 vs = wipe σ vs ∧ tt σ2 H2 fun b H3 => if b = true then te σ2 H3 Z else Zn H3)
    (hd : ∀ H' ts, Same H1 H' → ts.Nodup → (∀ t ∈ ts, H1 t = none) → D ∉ ts → ObjsAt H' o ts L → H' D = some (.lst (ts.map V.ref)) → Qd H') :
    ∃ W : Nat → Nat → Hp → Prop, (∃ m, W 0 m (upd H1 D (.lst []))) ∧ ∀ i m H, W i m H →
      (J.stop i H ∧ Qd H) ∨ (J.go i H ∧ ∃ Nx : Hp → Prop, (∀ H', Nx H' → ∃ m', m' < m ∧ W (i + 1) m' H') ∧ ∀ x H', J.yld i H x H' → g x (wipe σ vs) H' fun σ2 H2 => wipe σ2 vs = wipe σ vs ∧ tt σ2 H2 fun b H3 =>
        if b = true then te σ2 H3 fun y H4 => ∃ acc, H4 D = some (.lst acc) ∧ acc.length < sizeLine ∧ Nx (upd H4 D (.lst (acc ++ [y]))) else Nx H3) := by
  refine lc_it w (fun i H => Same H1 H ∧ G H ∧ ∃ ts : List Addr, ts.length = i ∧ ts.Nodup ∧ (∀ t ∈ ts, H1 t = none) ∧ D ∉ ts ∧ ObjsAt H o ts (L.take i) ∧ H D = some (.lst (ts.map V.ref)))
    ⟨same_upd hD, hS _ _ (same_upd hD) hG, [], rfl, List.nodup_nil, (fun t h => by cases h), (fun h => by cases h), .nil, by rw [upd_same]; rfl⟩ (fun i H _ p => p.2.1) (fun i x H H' hi p y => ?_) (fun H p => ?_)
  · obtain ⟨s1, g1, ts, hl, nd, hf, dn, oa, hDl⟩ := p
    refine hs i hi x H H' s1 g1 y _ _ fun t H4 e1 e2 s => ?_
    have tD : t ≠ D := fun z => by rw [z, hDl] at e1; cases e1
    have tN : t ∉ ts := fun z => by
      obtain ⟨x, _, h⟩ := oa.mem t z
      rw [e1] at h
      cases h
    refine ⟨_, s _ _ hDl, sz_lt (by rw [List.length_map]; omega), sm_put (s1.trans s) hD, hS _ _ (sm_put (s1.trans s) hD) hG, ts ++ [t], by rw [List.length_append, hl]; rfl, ?_, ?_, ?_, ?_, ?_⟩
    · refine List.nodup_append.mpr ⟨nd, by simp, fun a ha b hb z => tN ?_⟩
      rw [List.mem_singleton.mp hb] at z
      rw [← z]
      exact ha
    · intro u hu
      rcases List.mem_append.mp hu with h | h
      · exact hf u h
      · rw [List.mem_singleton.mp h]
        exact s1.free e1
    · intro h
      rcases List.mem_append.mp h with h | h
      · exact dn h
      · exact tD (List.mem_singleton.mp h).symm
    · rw [List.take_add_one, List.getElem?_eq_getElem hi]
      have a1 : ObjsAt (upd H4 D (.lst (ts.map V.ref ++ [.ref t]))) o ts (L.take i) := (oa.same s).off fun u hu => upd_ne fun z => dn (by rw [← z]; exact hu)
      exact a1.snoc (by rw [upd_ne tD]; exact e2)
    · rw [upd_same]
      simp
  · obtain ⟨s1, g1, ts, hl, nd, hf, dn, oa, hDl⟩ := p
    rw [List.take_length] at oa
    exact hd H ts s1 nd hf dn oa hDl
end
/-! ### the greatest of some numbers and nought -/
def mx : List Int → Int
  | [] => 0
  | a :: r => max a (mx r)
theorem mx_nn (l : List Int) : 0 ≤ mx l := by
  induction l with
  | nil => exact Int.le_refl 0
  | cons a r ih => simp only [mx]; omega
theorem mx_le {l : List Int} {y : Int} (h : y ∈ l) : y ≤ mx l := by
  induction l with
  | nil => cases h
  | cons a r ih =>
    simp only [mx]
    rcases List.mem_cons.mp h with e | h
    · omega
    · have := ih h
      omega
theorem mx_mem (l : List Int) : mx l = 0 ∨ mx l ∈ l := by
  induction l with
  | nil => exact .inl rfl
  | cons a r ih =>
    simp only [mx]
    by_cases h : mx r ≤ a
    · rw [show max a (mx r) = a by omega]
      exact .inr List.mem_cons_self
    · rw [show max a (mx r) = mx r by omega]
      rcases ih with e | e
      · exact .inl e
      · exact .inr (List.mem_cons_of_mem _ e)
theorem mx_eq {l : List Int} {m : Int} (h0 : m = 0 ∨ m ∈ l) (hn : 0 ≤ m) (h : ∀ y ∈ l, y ≤ m) : m = mx l := by
  have h1 : m ≤ mx l := by
    rcases h0 with e | e
    · rw [e]; exact mx_nn l
    · exact mx_le e
  rcases mx_mem l with e | e
  · have := mx_nn l
    omega
  · have := h _ e
    omega
theorem mx_perm {l m : List Int} (h : l.Perm m) : mx l = mx m :=
  mx_eq (by rcases mx_mem l with e | e; exact .inl e; exact .inr (h.mem_iff.mp e)) (mx_nn l) fun y hy => mx_le (h.mem_iff.mpr hy)
/-- how many there are of the commonest kind -/
def mostI (L : List Int) : Int := mx ((cn L).map (·.2))
theorem mostI_tally (L : List Int) : mx ((tally L).map (·.2)) = mostI L := mx_perm ((cn_perm L).symm.map _)
theorem mostI_perm {L M : List Int} (h : L.Perm M) : mostI L = mostI M := by unfold mostI; rw [cn_of_perm h]
/-- the commonest kinds -/
def cmn (L : List Int) : List Int := ((cn L).filter fun p => decide (p.2 = mostI L)).map (·.1)
theorem cmn_perm {L M : List Int} (h : L.Perm M) : cmn L = cmn M := by unfold cmn; rw [cn_of_perm h, mostI_perm h]
theorem objs_of_items {H : Hp} {ts : List Addr} : ∀ {T : Tab} {ts : List Addr}, Paired (fun (t : Addr) (q : Key × V) => H t = some (.tup [kV q.1, q.2])) ts (dk T) → ObjsAt H (fun p : Int × Int => .tup [.int p.1, .int p.2]) ts T
  | [], _, .nil => .nil
  | p :: r, _, .cons h t => .cons h (objs_of_items (ts := ts) (T := r) t)
theorem tups_of_objs {K : PySem.W.Frag} {H : Hp} : ∀ {ts : List Addr} {T : Tab}, ObjsAt H (fun p : Int × Int => .tup [.int p.1, .int p.2]) ts T → TupsAt K H ts T
  | _, _, .nil => .nil
  | _, _, .cons h t => .cons (SqT.of h) (tups_of_objs t)
theorem dk_get {T : Tab} {i : Nat} (h : i < T.length) : (dk T)[i]? = some (Sum.inl T[i].1, V.int T[i].2) := by
  unfold dk
  rw [List.getElem?_map, List.getElem?_eq_getElem h]
  rfl
theorem fm_filter {L : Tab} {m : Int} : L.filterMap (fun p => if p.2 = m then some (V.int p.1) else none) = LI ((L.filter fun p => decide (p.2 = m)).map (·.1)) := by
  induction L with
  | nil => rfl
  | cons p r ih =>
    by_cases e : p.2 = m
    · simp [e, ih]
    · simp [e, ih]
theorem dk_vals (T : Tab) : (dk T).map (·.2) = LI (T.map (·.2)) := by
  unfold dk
  rw [List.map_map, LI, List.map_map]
  rfl
theorem dk_item {T : Tab} {i : Nat} (h : i < T.length) {k v : V} (hk : ((dk T)[i]?).map (fun kv => kV kv.1) = some k) (hv : ((dk T)[i]?).map Prod.snd = some v) : k = .int T[i].1 ∧ v = .int T[i].2 := by
  rw [dk_get h] at hk hv
  exact ⟨(Option.some.inj hk).symm, (Option.some.inj hv).symm⟩
theorem paired_len {α β : Type} {F : α → β → Prop} : ∀ {l : List α} {m : List β}, Paired F l m → l.length = m.length
  | _, _, .nil => rfl
  | _, _, .cons _ t => congrArg (· + 1) (paired_len t)
theorem paired_at {α β : Type} {F : α → β → Prop} : ∀ {l : List α} {m : List β}, Paired F l m → ∀ (i : Nat) (h1 : i < l.length) (h2 : i < m.length), F l[i] m[i]
  | _, _, .nil, i, h, _ => absurd h (Nat.not_lt_zero i)
  | _, _, .cons h t, 0, _, _ => h
  | _, _, .cons h t, i + 1, h1, h2 => paired_at t i (Nat.lt_of_succ_lt_succ h1) (Nat.lt_of_succ_lt_succ h2)
theorem refs_inv {ts : List Addr} {i : Nat} {x : V} (h : (ts.map V.ref)[i]? = some x) : ∃ hi : i < ts.length, x = .ref ts[i] := by
  rw [List.getElem?_map] at h
  cases e : ts[i]? with
  | none => rw [e] at h; cases h
  | some t =>
    rw [e] at h
    obtain ⟨hi, e2⟩ := List.getElem?_eq_some_iff.mp e
    exact ⟨hi, by rw [e2]; exact (Option.some.inj h).symm⟩
theorem tups_at {K : PySem.W.Frag} {H : Hp} {ts : List Addr} {T : Tab} (h : TupsAt K H ts T) {i : Nat} (hi : i < T.length) {x : V} (hx : (ts.map V.ref)[i]? = some x) : ∃ t, x = .ref t ∧ SqT K H t [.int T[i].1, .int T[i].2] := by
  obtain ⟨h1, rfl⟩ := refs_inv hx
  exact ⟨_, rfl, paired_at h i h1 hi⟩
theorem cn_keys_map (L : List Int) : ((cn L).map (·.1)).map (fun k => (k, (L.count k : Int))) = cn L := by
  rw [List.map_map]
  conv => rhs; rw [← List.map_id (cn L)]
  refine List.map_congr_left fun p hp => ?_
  have := (mem_cn.mp hp).2
  show (p.1, (L.count p.1 : Int)) = p
  rw [← this]
theorem tups_of_map {K : PySem.W.Frag} {H : Hp} {f : Int → Int} : ∀ {ts : List Addr} {ks : List Int}, ObjsAt H (fun k : Int => .tup [.int k, .int (f k)]) ts ks → TupsAt K H ts (ks.map fun k => (k, f k))
  | _, _, .nil => .nil
  | _, _, .cons h t => .cons (SqT.of h) (tups_of_map t)
theorem keys_sorted_eq {L ys : List Int} (p : ys.Perm ((tally L).map (·.1))) (s : ys.Pairwise (· ≤ ·)) : ys = (cn L).map (·.1) :=
  List.Perm.eq_of_pairwise (le := fun a b : Int => a ≤ b) (fun a b _ _ h1 h2 => Int.le_antisymm h1 h2) s ((cn_rise L).imp fun h => by omega) (p.trans ((cn_perm L).symm.map _))
theorem cmn_len (L : List Int) : (cmn L).length ≤ L.length := by
  unfold cmn
  rw [List.length_map]
  have := List.length_filter_le (fun p : Int × Int => decide (p.2 = mostI L)) (cn L)
  have := cn_len L
  omega
theorem Good.perm {L M : List Int} (g : Good L) (h : M.Perm L) : Good M := ⟨by rw [h.length_eq]; exact g.len, fun z hz => g.rng z (h.mem_iff.mp hz)⟩
theorem good_nil : Good [] := ⟨Nat.zero_le _, fun z h => by cases h⟩
/-! ### the layer's rules with the written part named (for a comprehension's block) -/
section
variable {X : Cx} {e o a b : Expr} {es : List Expr} {ta tb te to : TE} {t : TA} {f : Str} {pos apos cpos p1 p2 p3 : Pos} {name : Str} {T id : String} {r : V → List V → Hp → VK → Prop}
theorem zisi (K : PySem.W.Frag) (h : X.K = K := by rfl) : CallR X (.builtin "isinstance") (rIsi K) := by subst h; exact call_isi
def rLenS (K : PySem.W.Frag) : List V → Hp → VK → Prop := fun xs H Q => ∃ p ys, xs = [.ref p] ∧ (SqL K H p ys ∨ SqT K H p ys) ∧ Q (.int ys.length) H
theorem zlen (K : PySem.W.Frag) (h : X.K = K := by rfl) : CallR X (.builtin "len") (rLenS K) := by subst h; exact call_len_seq
def rListS (K : PySem.W.Frag) : List V → Hp → VK → Prop := fun xs H Q => ∃ p ys, xs = [.ref p] ∧ (SqL K H p ys ∨ SqT K H p ys) ∧ ∀ l, H l = none → Q (.ref l) (upd H l (.lst ys))
theorem zlist (K : PySem.W.Frag) (h : X.K = K := by rfl) : CallR X (.type "list") (rListS K) := by subst h; exact call_list_of
theorem zixL (K : PySem.W.Frag) (h : X.K = K := by rfl) : IxR X (rIxL K) := by subst h; exact ix_list
theorem zixT (K : PySem.W.Frag) (h : X.K = K := by rfl) : IxR X (rIxT K) := by subst h; exact ix_tup
theorem zslL (K : PySem.W.Frag) (h : X.K = K := by rfl) : SlR X (rSlL K) := by subst h; exact sl_list
theorem zin (K : PySem.W.Frag) (h : X.K = K := by rfl) : OpR X (compareOp .In) (rIn K false) := by subst h; exact op_in_seq
theorem znin (K : PySem.W.Frag) (h : X.K = K := by rfl) : OpR X (compareOp .NotIn) (rIn K true) := by subst h; exact op_notIn_seq
theorem zall (K : PySem.W.Frag) (hc : X.calm = true := by rfl) (h : X.K = K := by rfl) : CallR X (.builtin "all") (rAll K) := by subst h; exact cr_all hc
theorem zany (K : PySem.W.Frag) (hc : X.calm = true := by rfl) (h : X.K = K := by rfl) : CallR X (.builtin "any") (rAny K) := by subst h; exact cr_any hc
theorem zsum (K : PySem.W.Frag) (hc : X.calm = true := by rfl) (h : X.K = K := by rfl) : CallR X (.builtin "sum") (rSum K) := by subst h; exact cr_sum hc
theorem zmax (K : PySem.W.Frag) (hc : X.calm = true := by rfl) (h : X.K = K := by rfl) : CallR X (.builtin "max") (rMax K) := by subst h; exact cr_max hc
theorem zmin (K : PySem.W.Frag) (hc : X.calm = true := by rfl) (h : X.K = K := by rfl) : CallR X (.builtin "min") (rMin K) := by subst h; exact cr_min hc
theorem zsorted (K : PySem.W.Frag) (h : X.K = K := by rfl) : CallR X (.builtin "sorted") (rSortedI K) := by subst h; exact cr_sortedI
theorem zeqD (K : PySem.W.Frag) (hu : X.A.units + 64 < cLine) (h : X.K = K := by rfl) : OpR X (compareOp .Eq) (rEqD K) := by subst h; exact op_eqD hu
theorem zneD (K : PySem.W.Frag) (hu : X.A.units + 64 < cLine) (h : X.K = K := by rfl) : OpR X (compareOp .NotEq) (rNeD K) := by subst h; exact op_neD hu
theorem zextT (K : PySem.W.Frag) (h : X.K = K := by rfl) : MtM X "list.extend" (rExtendT K) := by subst h; exact mt_extendT
theorem zfld (K : PySem.W.Frag) (he : PE X e ta) (hb : attributeBase e f X.env (eval e X.env) = eval e X.env) (h : X.K = K := by rfl) : PE X (.Attribute e f pos) (tFld K ta f) := by subst h; exact pe_fld he hb
theorem zrevL (K : PySem.W.Frag) {k : Nat} (he : PE X e te) (h : X.K = K := by rfl) : PE X (.Subscript e (.Slice none none (some (.UnaryOp .USub (.Constant (.int 1) k p1) p2)) p3) pos) (tRevL K te) := by subst h; exact pe_revL he
theorem zbm0 (K : PySem.W.Frag) (pa : PlainAttrs T) (slot : Slot T name id) (hty : typeOf (.builtin id) = pure (.type "method_descriptor")) (hm : MtR X id r) (ho : PE X o to)
    (hbase : attributeBase o name X.env (eval o X.env) = eval o X.env := by rfl) (hline : (apos.endLine == cpos.line) = true := by rfl) (h : X.K = K := by rfl) : PE X (.Call (.Attribute o name apos) [] [] cpos) (tBM0 K T r to) := by
  subst h
  exact pe_bm0 pa slot hty hm ho hbase hline
theorem zmt {pl : Sem Bool} (K : PySem.W.Frag) {CX : CXT} {k : Nat} {C m : Str} {ps : List Str} {sp : Sp} {E : XK} (h : X.K = K) (M : MetOk X.prog X.w X.K X.mg X.base CX k C m ps sp) (hr : Room k X.A) (hx : Passes CX X E) (he : PE X o ta) (ha : PA X (e :: es) t)
    (hst : starEach (e :: es) X.env = (false, eval e X.env) :: starEach es X.env := by rfl) (hpl : (backTo pos (starEach es X.env)).any (·.1) = false := by rfl)
    (ht : eval (.Call (.Attribute o m apos) (e :: es) [] pos) X.env = (do
      let ov ← eval o X.env
      standAt apos.atName
      let (f, first) ← holding [ov] (getMethod ov m pl)
      callWith pos f first (backTo pos (starEach (e :: es) X.env)) (backToKw pos (keywordEach [] X.env))) := by rfl) :
    PE X (.Call (.Attribute o m apos) (e :: es) [] pos) (tMeth (He.ga K C) m sp [] E ta t) := by
  subst h
  exact pe_mt M hr hx he ha hst hpl ht
theorem zmk (K : PySem.W.Frag) {CX : CXT} {k : Nat} {C : Str} {ps : List Str} {sp : Sp} {E : XK} (h : X.K = K) (M : MakOk X.prog X.w X.K X.mg X.base CX k C ps sp) (hr : Room (k + 1) X.A) (hg : Gl X C) (hx : Passes CX X E) (ha : PA X (e :: es) t) (hdb : (C == ("__debug__" : Str)) = false := by decide)
    (he : starEach (e :: es) X.env = (false, eval e X.env) :: starEach es X.env := by rfl) (hpl : (backTo cpos (starEach es X.env)).any (·.1) = false := by rfl) : PE X (.Call (.Name C pos) (e :: es) [] cpos) (tMake (He.ga K C) sp [] E t) := by
  subst h
  exact pe_mk M hr hg hx ha hdb he hpl
end
/-! ### sorted(d, key=lambda kind: (-many[kind], kind)) -/
section
variable {prog : Program} {w : World} {A : Around}
/-- the lambda called at a key -/
theorem key_turn {s : Shared} {f c' c d : Addr} {pm ctv : Value} {params : Arguments} {scope : Scope} {cl : List (Str × Addr)} {p1 p2 p3 p4 p5 p6 : Pos} {x1 : Nat} {qual : Str} {vs : List (Key × Value)} {k n : Int} {t u : Tok}
    (ho : s.heap.get? f = some (PySem.W.kla_obj "<lambda>" qual params (.Tuple [.UnaryOp .USub (.Subscript (.Name "many" p1) (.Name "kind" p2) p3) p4, .Name "kind" p5] x1 p6) scope cl pm c' ctv))
    (hcd : s.heap.CodeRec (.ref c') qual) (hroom : A.depth < recursionLimit)
    (hbind : bindArgs (PySem.W.kla_fn "<lambda>" qual params (.Tuple [.UnaryOp .USub (.Subscript (.Name "many" p1) (.Name "kind" p2) p3) p4, .Name "kind" p5] x1 p6) scope cl pm (.ref c') ctv) ⟨[.int k t], []⟩ = pure [(("kind" : Str), Value.int k t)])
    (hk1 : scope.names.lookup ("kind" : Str) = some .local) (hk2 : scope.names.lookup ("many" : Str) = some .free) (hkd : scope.kind = .function) (hco : scope.isCoroutine = false) (hgen : scope.isGenerator = false) (hnc : ∀ x ∈ scope.names, x.2 ≠ .cell)
    (hcl : cl.lookup ("many" : Str) = some c) (hc : s.heap.IsCell c (some (.ref d))) (hd : s.heap.DictOf (mixKind prog w) d vs) (hv : valueAt vs (Sum.inl k) = some (.int n u)) (hlim : s.heap.NoLimit) :
    wpAny (model prog w) A (call (.ref f) [.int k t]) (PySem.W.KeyPure (.tuple [.int (-n), .int k]) s) (fun _ _ => False) s := by
  refine wpAny_call ?_
  refine PySem.W.kla_callFunE hroom ho rfl hco hgen rfl hcd ?_
  rw [hbind]
  refine wpAny_pure (wpAny_newFunctionEnv hnc (fun y hy => ?_) (fun h₁ hns hsb => ⟨hlim.fresh _ hsb, ?_⟩) hkd)
  · rw [List.mem_singleton.mp hy]
    exact hk1
  have kp : ∀ b o, s.heap.get? b = some o → h₁.get? b = some o := fun b o e => hsb.extBut b o (Nat.ne_of_lt (Heap.lt_size e)) (Heap.get?_push_of_some _ e)
  refine PySem.W.kla_codeExpr ?_
  have lkind : ∀ (h2 : Heap) (tk : Nat) (Q : Value → Shared → Prop) (E : Value → Shared → Prop) (pp : Pos) (A' : Around), h2 = h₁ → Q (.int k t) { s with heap := h2, toks := tk } →
      wpAny (model prog w) A' (eval (.Name "kind" pp) (newEnv scope s.heap.objs.size mainGlobals cl (qual ++ ".<locals>.") (some f) (.ref c') none builtinsNs)) Q E { s with heap := h2, toks := tk } := by
    intro h2 tk Q E pp A' e q
    subst e
    exact wpAny_Name (wpAny_loadName_local hkd hk1 hns rfl q)
  refine wpAny_Tuple_spliced ?_
  refine Calls.spliced_cons ?_
  refine UnaryOp_ ?_
  refine subD_of PySem.F.slot_dict_getitem.lookup (fun _ _ => rfl) ?_
  refine wpAny_Name (wpAny_loadName_free hkd hk2 hcl (?_ : h₁.IsCell c (some (.ref d))) ?_)
  · obtain ⟨o, ho', hd'⟩ := hc
    exact ⟨o, kp _ _ ho', hd'⟩
  refine lkind _ _ _ _ _ _ rfl ?_
  have hd1 : h₁.DictOf (mixKind prog w) d vs := by
    obtain ⟨o, es, ep, e1, e2⟩ := hd
    exact ⟨o, es, ep, kp _ _ e1, e2⟩
  refine ⟨hd1.typeIs, ?_⟩
  refine wpAny_getItem_of (knd := mixKind prog w) (k := Sum.inl k) (keyIs_int k t) hd1.mapOf hv ?_
  refine neg_int ?_
  refine Calls.spliced_cons ?_
  refine lkind _ _ _ _ _ _ rfl ?_
  refine Calls.spliced_nil ?_
  refine ⟨by show 2 ≤ sizeLine; decide, ?_⟩
  refine ⟨_, _, rfl, fun b o e => Heap.get?_push_of_some _ (kp b o e), ?_⟩
  refine .tuple (Heap.get?_push_size _ rfl) rfl rfl (.cons (as := []) (bs := []) (.int _ _) (.cons (as := []) (bs := []) (.int _ _) .nil))
end
def byLe (p q : Int × Int) : Bool := decide (-p.2 < -q.2 ∨ (-p.2 = -q.2 ∧ p.1 ≤ q.1))
/-- the keys, those with greater values first, alike ones rising -/
def byK (t : Tab) : List Int := (t.mergeSort byLe).map (·.1)
def tSortL (T : List (Addr × Str)) (im : Nat) (te : TE) : TE := fun σ H Q => te σ H fun x H1 => ∃ d tb, x = .ref d ∧ H1 d = some (.dK (dk tb)) ∧ (tb.map (·.1)).Nodup ∧ tb.length ≤ 100000 ∧ σ[im]? = some (some (.ref d)) ∧ LamX.Tabs T H1 ∧
  ∀ H2 p, LamX.ExtN H1 H2 → LamX.Tabs T H2 → H2 p = none → Q (.ref p) (upd H2 p (.lst (LI (byK tb))))
theorem each_get {R : Value → Int × Int → Prop} : ∀ {vs : List Value} {bs : Tab}, vs.length = bs.length → (∀ (i : Nat) (v : Value) (b : Int × Int), vs[i]? = some v → bs[i]? = some b → R v b) → PySem.W.EachIs R vs bs
  | [], [], _, _ => .nil
  | [], _ :: _, h, _ => by cases h
  | _ :: _, [], h, _ => by cases h
  | v :: vs, b :: bs, h, f => .cons (f 0 v b rfl rfl) (each_get (by simpa using h) fun i x y h1 h2 => f (i + 1) x y (by simpa using h1) (by simpa using h2))
theorem vals_each : ∀ {vs : List Value} {bs : Tab}, PySem.W.EachIs (fun v (p : Int × Int) => ∃ t, v = Value.int p.1 t) vs bs → Vals (LI (bs.map (·.1))) vs
  | _, _, .nil => .nil
  | _, _, .cons h t => .cons h (vals_each t)
section
variable {X : Cx}
theorem pe_sortLam {T : List (Addr × Str)} {c P : Addr} {e : Expr} {te : TE} {params : Arguments} {scope : Scope} {p pos kpos lpos p1 p2 p3 p4 p5 p6 : Pos} {x1 im : Nat} (hc : X.calm = true) (hr : Room 2 X.A)
    (hg : Gl X "sorted") (hm : X.mg "sorted" = none) (TB : LamX.TabB X.base X.mg c P) (hcode : X.env.code = .ref c) (hmT : (P, X.env.qual ++ "<lambda>") ∈ T) (hu : ∀ q ∈ T, q.1 = P → q.2 = X.env.qual ++ "<lambda>")
    (hdef : defaultsOf params X.env = ([], [])) (hk1 : scope.names.lookup ("kind" : Str) = some .local) (hk2 : scope.names.lookup ("many" : Str) = some .free) (hkd : scope.kind = .function) (hco : scope.isCoroutine = false) (hgen : scope.isGenerator = false) (hnc : ∀ x ∈ scope.names, x.2 ≠ .cell)
    (hfr : ∀ y ∈ scope.names, y.2 = .free → X.env.scope.names.lookup y.1 = some .cell)
    (hbind : ∀ (q : Str) (cl : List (Str × Addr)) (pm cv ctv : Value) (k : Int) (t : Tok), bindArgs (PySem.W.kla_fn "<lambda>" q params (.Tuple [.UnaryOp .USub (.Subscript (.Name "many" p1) (.Name "kind" p2) p3) p4, .Name "kind" p5] x1 p6) scope cl pm cv ctv) ⟨[.int k t], []⟩ = pure [(("kind" : Str), Value.int k t)])
    (hN : X.N[im]? = some ("many" : Str)) (he : PE X e te) (hv : bootBuiltins "sorted" = some (.builtin "sorted") := by decide +kernel)
    (hst : starEach [e] X.env = (false, eval e X.env) :: starEach [] X.env := by rfl) :
    PE X (.Call (.Name "sorted" p) [e] [⟨some "key", .Lambda params (.Tuple [.UnaryOp .USub (.Subscript (.Name "many" p1) (.Name "kind" p2) p3) p4, .Name "kind" p5] x1 p6) scope lpos, kpos⟩] pos) (tSortL T im te) := by
  refine ⟨fun pins s σ H Q I h => ?_⟩
  refine wpAny_Call_Name_kw (ld_blt I hg hm hv ?_)
  have ha : PA X [e] (tCons te tNil) := pa_cons he pa_nil hst
  refine PyProof.Rows.callWith_kw (thn (ha.run pos pins s σ H (fun vs H1 => ∃ d tb, vs = [V.ref d] ∧ H1 d = some (.dK (dk tb)) ∧ (tb.map (·.1)).Nodup ∧ tb.length ≤ 100000 ∧ σ[im]? = some (some (.ref d)) ∧ LamX.Tabs T H1 ∧
      ∀ H2 p, LamX.ExtN H1 H2 → LamX.Tabs T H2 → H2 p = none → Q (.ref p) (upd H2 p (.lst (LI (byK tb))))) I ?_) fun us s1 ⟨vs, H1, I1, r1, d, tb, ev, hd, nd, hl, hs, hT, q⟩ => ?_) (by rw [hst]; rfl) (by rw [hst]; rfl) rfl rfl
  · have h' : te σ H fun x H1 => ∃ d tb, x = .ref d ∧ H1 d = some (.dK (dk tb)) ∧ (tb.map (·.1)).Nodup ∧ tb.length ≤ 100000 ∧ σ[im]? = some (some (.ref d)) ∧ LamX.Tabs T H1 ∧
        ∀ H2 p, LamX.ExtN H1 H2 → LamX.Tabs T H2 → H2 p = none → Q (.ref p) (upd H2 p (.lst (LI (byK tb)))) := h
    show te σ H fun x H1 => _
    have e1 : (fun (x : V) (H1 : Hp) => ∃ d tb, x = V.ref d ∧ H1 d = some (.dK (dk tb)) ∧ (tb.map (·.1)).Nodup ∧ tb.length ≤ 100000 ∧ σ[im]? = some (some (.ref d)) ∧ LamX.Tabs T H1 ∧
        ∀ H2 p, LamX.ExtN H1 H2 → LamX.Tabs T H2 → H2 p = none → Q (.ref p) (upd H2 p (.lst (LI (byK tb))))) =
      fun (x : V) (H1 : Hp) => ∃ d tb, [x] = [V.ref d] ∧ H1 d = some (.dK (dk tb)) ∧ (tb.map (·.1)).Nodup ∧ tb.length ≤ 100000 ∧ σ[im]? = some (some (.ref d)) ∧ LamX.Tabs T H1 ∧
        ∀ H2 p, LamX.ExtN H1 H2 → LamX.Tabs T H2 → H2 p = none → Q (.ref p) (upd H2 p (.lst (LI (byK tb)))) := by
      funext x H1
      simp only [List.cons.injEq, and_true]
    rw [e1] at h'
    exact h'
  subst ev
  obtain ⟨u, rfl, ru⟩ := vals1 r1
  obtain rfl : u = Value.ref d := ru
  have hfree : ∀ y ∈ scope.names, y.2 = .free → ∃ c, X.env.cells.lookup y.1 = some c := fun y hy e => I.ok.has _ (.inl (hfr y hy e))
  show wpAny _ _ (evalAll [(do let v ← eval (.Lambda params (.Tuple [.UnaryOp .USub (.Subscript (.Name "many" p1) (.Name "kind" p2) p3) p4, .Name "kind" p5] x1 p6) scope lpos) X.env; standAt pos; pure v)]) _ _ s1
  refine wpAny_evalAll_cons (wpAny_bind (LamX.lam_make2 I1 TB hcode hmT hu hT hdef hfree fun f c' pm ctv H2 s2 I2 eN t2 hf nf ff hc' => wpAny_bind (wpAny_standAt (wpAny_pure ?_))))
  refine wpAny_evalAll_nil ?_
  show wpAny _ _ (call (.builtin "sorted") [.ref d] [(Str.ofString "key", .ref f)]) _ _ s2
  -- what stands there
  have hd2 : H2 d = some (.dK (dk tb)) := eN _ _ hd (fun ps z => by cases z)
  obtain ⟨hz, lo, vs, kv, dd⟩ := I2.hok d _ hd2
  obtain ⟨ep, hat⟩ := dd.dictAt
  have lv : vs.length = tb.length := by rw [← dk_len tb]; exact (Paired.length kv).symm
  obtain ⟨m, hn, hlook⟩ := I2.loc
  have hcm : X.env.scope.names.lookup ("many" : Str) = some .cell := hfr _ (PySem.mem_of_lookup hk2) rfl
  obtain ⟨u, ru, look⟩ := hlook im ("many" : Str) (.ref d) hN hs (.inr (.inl hcm))
  obtain rfl : u = Value.ref d := ru
  obtain ⟨cc, hcc, hcell⟩ : ∃ cc, X.env.cells.lookup ("many" : Str) = some cc ∧ s2.heap.IsCell cc (some (.ref d)) := by
    rcases look with ⟨k, _⟩ | ⟨_, z⟩
    · have k' : X.env.scope.names.lookup ("many" : Str) = some .local := k
      rw [hcm] at k'
      cases k'
    · exact z
  have hcl : (cloFrom X.env.cells scope.names []).lookup ("many" : Str) = some cc := by
    obtain ⟨c2, h2⟩ := mem_lookup (cloFrom_has (cells := X.env.cells) (acc := []) (PySem.mem_of_lookup hk2))
    have : X.env.cells.lookup ("many" : Str) = some c2 := by
      rcases cloFrom_mem (PySem.mem_of_lookup h2) with hm | ⟨h1, h3⟩
      · cases hm
      · rw [h3, hcc]
        rfl
    rw [h2, ← this, hcc]
  obtain ⟨⟨oc, cvs, ct, hoc, hdc, hvc⟩, _, _⟩ := I2.hok c' _ hc'
  have fits : (dk tb).length ≤ sizeLine := hz
  have hvs : vs.length ≤ sizeLine := by rw [lv]; exact sz_le (by omega)
  -- sorted
  refine PyProof.Rows.call_function_entry_kw PyProof.Rows.kind_sorted PyProof.Rows.plain_sorted PyProof.Rows.entry_sorted (PyProof.Rows.ksk_s1 _ _) ?_
  unfold Builtin.«sorted»
  refine wpAny_bind (m := checkCount "sorted" 1 1 _) (wpAny_pure ?_)
  refine wpAny_bind (PySem.W.kdu_collect (A := X.A.in1) (PySem.W.kdl_dict (knd := mixKind X.prog X.w) (kvs := vs) (ep := ep) lo) (I2.ok.hd hc) hat hvs fun h1 tk acc hk hacc => ?_)
  have hal : acc.toList.length = tb.length := by rw [Array.length_toList, hacc.1, lv]
  have hE : PySem.W.EachIs (fun v (p : Int × Int) => ∃ t, v = Value.int p.1 t) acc.toList tb := each_get hal fun j v b e1 e2 => by
    obtain ⟨k, x, e3, e4⟩ := hacc.2 j v (by rw [← Array.getElem?_toList]; exact e1)
    have e5 : (dk tb)[j]? = some (Sum.inl b.1, V.int b.2) := by
      unfold dk
      rw [List.getElem?_map, e2]
      rfl
    obtain ⟨y, e6, _⟩ := kv_get kv e5
    rw [e3] at e6
    obtain ⟨rfl, _⟩ := Prod.mk.inj (Option.some.inj e6)
    rcases keyIs_shape (show keyIs (Sum.inl b.1) v = true from e4) with ⟨i, t, ek, ev⟩ | ⟨z, t, ek, ev⟩
    · cases ek
      exact ⟨t, ev⟩
    · cases ek
  refine wpAny_bind (wpAny_newList ?_ (by rw [hal]; exact sz_le (by omega)))
  have hoL : (h1.push (seqObj "list" acc.toList.toArray 0)).get? h1.objs.size = some (seqObj "list" acc.toList.toArray 0) := Heap.get?_push_size _ rfl
  show wpAny _ _ _ _ _ { s2 with heap := h1.push (seqObj "list" acc.toList.toArray 0), toks := tk }
  refine wpAny_bind (wpAny_holding (wpAny_call_entry_kw PyProof.Rows.slot_list_sort ⟨_, hoL, rfl⟩ PyProof.Rows.entry_list_sort ?_ (PyProof.Rows.ksk_l1 _ _)))
  rw [PyProof.Rows.ksk_t1]
  have up : ∀ (h : Heap), PySem.W.KeepsBut h1.objs.size (h1.push (seqObj "list" acc.toList.toArray 0)) h → ∀ b o, s2.heap.get? b = some o → h.get? b = some o := fun h kp b o e =>
    kp b o (Nat.ne_of_lt (Heap.lt_size (hk _ _ e))) (Heap.get?_push_of_some _ (hk _ _ e))
  refine PySem.W.keyH_tree (kz := tb.map fun p => .tuple [.int (-p.2), .int p.1]) (s := { s2 with heap := h1.push (seqObj "list" acc.toList.toArray 0), toks := tk }) hoL (by rw [List.length_map, hal]) (by rw [hal]; exact sz_le (by omega))
    (PySem.W.AllAlike.of fun _ _ => by simp [PySem.W.alike, PySem.W.alikeAll]) (PySem.W.Sortable.tuples fun _ => ⟨_, _, rfl⟩) (fun dd hdd => ?_) (fun i v k hv hk h tk kp => ?_) (fun h' tk out cn kp hD ko => ?_)
  · obtain ⟨q, _, rfl⟩ := List.mem_map.mp hdd
    have h1 : (PyData.tuple [.int (-q.2), .int q.1]).depth = 1 := by simp [PyData.depth, PyData.depthAll]
    have h2 := hr.in1.in1.units
    omega
  · rw [List.getElem?_map] at hk
    cases e : tb[i]? with
    | none => rw [e] at hk; cases hk
    | some b =>
      rw [e] at hk
      obtain rfl := Option.some.inj hk
      have hz : (v, b) ∈ acc.toList.zip tb := List.mem_of_getElem? (i := i) (by rw [List.getElem?_zip_eq_some]; exact ⟨hv, e⟩)
      obtain ⟨t, et⟩ := hE.zip _ hz
      have et : v = Value.int b.1 t := et
      subst et
      have hval : valV (dk tb) (Sum.inl b.1) = some (.int b.2) := by
        rw [dk_val, lk_of_mem nd (List.mem_of_getElem? e)]
        rfl
      obtain ⟨w', hw, ⟨u, rfl⟩⟩ := RelO.some_of (v := .int b.2) (o := valueAt vs (Sum.inl b.1)) (by rw [← hval]; exact kv.val (Sum.inl b.1))
      refine key_turn (d := d) (s := { s2 with heap := h, toks := tk }) (up h kp _ _ hf) ⟨c', oc, cvs, ct, rfl, up h kp _ _ hoc, hdc, hvc⟩ hr.in1.in1.depth (hbind _ _ _ _ _ _ _) hk1 hk2 hkd hco hgen hnc hcl ?_ ?_ hw (I2.nolimit.keeps (up h kp))
      · obtain ⟨o, ho, hd⟩ := hcell
        exact ⟨o, up h kp _ _ ho, hd⟩
      · exact dd.keep (up h kp)
  · have eo := PySem.W.keyedOut_each (fun p : Int × Int => PyData.tuple [.int (-p.2), .int p.1]) ko hE
    rw [PySem.W.dataLe_ii (β := Int × Int) (fun p => -p.2) (fun p => p.1)] at eo
    have ev := vals_each eo
    have lb : (byK tb).length = tb.length := by
      unfold byK
      rw [List.length_map, List.length_mergeSort]
    have I3 : Inv X pins σ H2 { s2 with heap := h1, toks := tk } := I2.kept hk
    refine ⟨_, rfl, wpAny_pure ⟨_, rfl, .ref h1.objs.size, upd H2 h1.objs.size (.lst (LI (byK tb))), I3.laid (t' := tk) (fun b o e => ?_) (Nat.le_refl _) ?_, rfl, q H2 _ eN t2 ?_⟩⟩
    · exact kp b o (Nat.ne_of_lt (Heap.lt_size e)) (Heap.get?_push_of_some _ e)
    · exact ⟨by rw [LI, List.length_map, lb]; exact sz_le (by omega), out, cn, ev, hD⟩
    · exact I3.hok.fresh (Nat.le_refl _)
end
/-! ### heaps where code tables may grow -/
def lamQ : Str := (("by_count" : Str) ++ ".<locals>.") ++ "<lambda>"
def bcTabs (K : PySem.W.Frag) : List (Addr × Str) := [((He.cT K ("by_count", none)).2, lamQ)]
/-- the maker's table stands well -/
abbrev TabK (K : PySem.W.Frag) (H : Hp) : Prop := LamX.Tabs (bcTabs K) H
/-- all but the tables stay, the maker's table stands well -/
structure Sm (K : PySem.W.Frag) (H H' : Hp) : Prop where
  keep : ∀ b o, H b = some o → (∀ ps, o ≠ .tbl ps) → H' b = some o
  tabs : TabK K H → TabK K H'
/-- nothing but a table may stand at p -/
def Fr (H : Hp) (p : Addr) : Prop := ∀ o, H p = some o → ∃ ps, o = .tbl ps
section
variable {K : PySem.W.Frag} {H H1 H2 : Hp} {p b : Addr}
theorem Fr.of (h : H p = none) : Fr H p := fun o e => by rw [h] at e; cases e
theorem sm_of (s : Same H H1) : Sm K H H1 := ⟨fun b o e _ => s b o e, fun t => t.ext s⟩
theorem Sm.refl : Sm K H H := sm_of (Same.refl H)
theorem Sm.trans (a : Sm K H H1) (b : Sm K H1 H2) : Sm K H H2 := ⟨fun c o e n => b.keep c o (a.keep c o e n) n, fun t => b.tabs (a.tabs t)⟩
theorem sm_ext (e : LamX.ExtN H H1) (t : TabK K H1) : Sm K H H1 := ⟨fun b o h n => e b o h n, fun _ => t⟩
theorem Sm.l {xs : List V} (s : Sm K H H1) (h : H b = some (.lst xs)) : H1 b = some (.lst xs) := s.keep _ _ h (fun _ z => by cases z)
theorem Sm.t {xs : List V} (s : Sm K H H1) (h : H b = some (.tup xs)) : H1 b = some (.tup xs) := s.keep _ _ h (fun _ z => by cases z)
theorem Sm.d {xs : List (Key × V)} (s : Sm K H H1) (h : H b = some (.dK xs)) : H1 b = some (.dK xs) := s.keep _ _ h (fun _ z => by cases z)
theorem Sm.i {C dx : Addr} {fs : List (Str × V)} (s : Sm K H H1) (h : H b = some (.ins C dx fs)) : H1 b = some (.ins C dx fs) := s.keep _ _ h (fun _ z => by cases z)
theorem Sm.f {o : Obj} {u : HO} (s : Sm K H H1) (h : H b = some (.frz o u)) : H1 b = some (.frz o u) := s.keep _ _ h (fun _ z => by cases z)
theorem Sm.seq {xs : List V} (e : Sm K H H1) (h : SqL K H b xs) : SqL K H1 b xs := by
  rcases h with (h | ⟨o, h⟩) | h
  · exact .inl (.inl (e.l h))
  · exact .inl (.inr ⟨o, e.f h⟩)
  · exact .inr h
theorem Sm.tup {xs : List V} (e : Sm K H H1) (h : SqT K H b xs) : SqT K H1 b xs := by
  rcases h with (h | ⟨o, h⟩) | h
  · exact .inl (.inl (e.t h))
  · exact .inl (.inr ⟨o, e.f h⟩)
  · exact .inr h
/-- what was fresh later was fresh before -/
theorem Sm.fr (s : Sm K H H1) (f : Fr H1 p) : Fr H p := fun o e => by
  by_cases h : ∃ ps, o = .tbl ps
  · exact h
  · exact f o (s.keep _ _ e fun ps z => h ⟨ps, z⟩)
/-- a table or another thing known by what is true of it -/
def odd : HO → Bool
  | .tbl _ => true
  | .ext _ => true
  | _ => false
theorem tab_put {o : HO} (t : TabK K H) (h : ∀ u, H p = some u → odd u = false) : TabK K (upd H p o) := fun q hq => by
  obtain ⟨ps, h1, h2, h3⟩ := t q hq
  have n1 : q.1 ≠ p := fun z => by
    have := h _ (by rw [← z]; exact h1)
    cases this
  refine ⟨ps, by rw [upd_ne n1]; exact h1, h2, fun pos cv hc => ?_⟩
  obtain ⟨c, e1, e2⟩ := h3 pos cv hc
  have n2 : c ≠ p := fun z => by
    have := h _ (by rw [← z]; exact e2)
    cases this
  exact ⟨c, e1, by rw [upd_ne n2]; exact e2⟩
/-- a new object -/
theorem sm_new {o : HO} (s : Sm K H H1) (h : H1 p = none) : Sm K H (upd H1 p o) := s.trans (sm_of (same_upd h))
/-- an object changed that was not there -/
theorem sm_mut {o u : HO} (s : Sm K H H1) (f : Fr H p) (h : H1 p = some u) (hu : odd u = false := by rfl) : Sm K H (upd H1 p o) := ⟨fun b x e n => by
    have nb : b ≠ p := fun z => by
      obtain ⟨ps, h2⟩ := f x (by rw [← z]; exact e)
      exact n ps h2
    rw [upd_ne nb]
    exact s.keep _ _ e n, fun t => tab_put (s.tabs t) fun v hv => by rw [h] at hv; rw [← Option.some.inj hv]; exact hu⟩
theorem fr_ne {q : Addr} {o : HO} (f : Fr H p) (h : H q = some o) (ho : ∀ ps, o ≠ .tbl ps) : q ≠ p := fun z => by
  obtain ⟨ps, e⟩ := f o (by rw [← z]; exact h)
  exact ho ps e
end
theorem FunD.okC {P : Program} {w : World} {K : PySem.W.Frag} {mg : Str → Option Value} {base : Heap} {x qual : Str} {params : Arguments} {body : List Stmt} {scope : Scope} {dvs : List V} {kws : List (Str × V)} {fd : FuncData} {d : He.Defn}
    {CX : CXT} {N ps : List Str} {k : Nat} {sp : Sp} (F : FunD K x qual params body scope dvs kws (He.fAd K d) fd) (S : FnScope N ps scope) (len : ∀ vs H Q E, sp vs H Q E → vs.length = ps.length)
    (hbody : ∀ (A : Around) (outer : List Env) (s : Shared) (H : Hp) (vs : List V) (Q : VK) (E : XK), Room k (A.deeper (envOfC qual scope s.heap.objs.size (He.fAd K d) (.ref (He.codeOf K d)))) → sp vs H Q E →
      ∃ t, PSs (cxOf CX P w K mg base N qual scope (He.fAd K d) (.ref (He.codeOf K d)) A outer s H E) body t ∧ t { nx := fun _ H' => Q .non H', rt := Q } (L2.start N vs) H) : FnOk P w K mg base CX (k + 1) (He.fAd K d) fd ps sp := by
  obtain ⟨oc, od, dV, kV, doc, pm, an, cdv, ct, osl, rfl, lk, hcd, _, _⟩ := F.ex
  obtain ⟨c, rfl⟩ := He.codeIn_ref hcd
  have e : He.codeOf K d = c := He.codeOf_eq lk rfl
  rw [e] at hbody
  exact fn_of lk hcd S len fun A outer s H vs Q E hr hsp => hbody A outer s H vs Q E hr hsp
/-! ### things kind by kind, the commonest first -/
def byc (L : List Int) : List Int := (byK (cn L)).flatMap fun k => List.replicate (L.count k) k
theorem byK_perm (t : Tab) : (byK t).Perm (t.map (·.1)) := (List.mergeSort_perm t byLe).map _
theorem count_flat {L ks : List Int} (nd : ks.Nodup) (k : Int) : (ks.flatMap fun j => List.replicate (L.count j) j).count k = if k ∈ ks then L.count k else 0 := by
  induction ks with
  | nil => rfl
  | cons j r ih =>
    obtain ⟨h1, h2⟩ := List.nodup_cons.mp nd
    rw [List.flatMap_cons, List.count_append, ih h2, List.count_replicate]
    by_cases e : k = j
    · subst e
      simp [h1]
    · have : ¬ (j == k) = true := by simp; exact fun z => e z.symm
      simp [e, this]
theorem byK_nodup (L : List Int) : (byK (cn L)).Nodup := (byK_perm (cn L)).nodup_iff.mpr (cn_nodup L)
theorem byK_mem {L : List Int} {k : Int} : k ∈ byK (cn L) ↔ k ∈ L := by
  rw [(byK_perm (cn L)).mem_iff]
  unfold cn
  rw [tally_mem, srt_mem]
theorem byc_perm (L : List Int) : (byc L).Perm L := by
  rw [List.perm_iff_count]
  intro k
  unfold byc
  rw [count_flat (byK_nodup L)]
  by_cases h : k ∈ L
  · rw [if_pos (byK_mem.mpr h)]
  · rw [if_neg fun z => h (byK_mem.mp z), List.count_eq_zero.mpr h]
theorem byc_len (L : List Int) : (byc L).length = L.length := (byc_perm L).length_eq
/-! ### len(set(xs)); own instances and their classes -/
def dd (L : List Int) : List Int := L.foldl PyProof.Rows.step_dedup []
theorem sd_eq (l : List Int) (k : Int) : PyProof.Rows.step_dedup l k = if k ∈ l then l else l ++ [k] := by
  unfold PyProof.Rows.step_dedup
  have e : (l.any fun x => x == k) = decide (k ∈ l) := by
    rw [Bool.eq_iff_iff, List.any_eq_true, decide_eq_true_eq]
    constructor
    · rintro ⟨y, hy, e⟩
      rw [← eq_of_beq e]
      exact hy
    · exact fun h => ⟨k, h, by simp⟩
  show (if (l.any fun x => x == k) = true then l else l ++ [k]) = _
  rw [e]
  by_cases h : k ∈ l
  · rw [if_pos h, if_pos (decide_eq_true h)]
  · rw [if_neg h, if_neg fun z => h (of_decide_eq_true z)]
theorem dd_snoc (L : List Int) (k : Int) : dd (L ++ [k]) = if k ∈ dd L then dd L else dd L ++ [k] := by
  unfold dd
  rw [List.foldl_append]
  exact sd_eq _ k
theorem dd_mem {L : List Int} {k : Int} : k ∈ dd L ↔ k ∈ L := by
  refine snoc_ind (P := fun L => k ∈ dd L ↔ k ∈ L) (by simp [dd]) (fun l j ih => ?_) L
  rw [dd_snoc, List.mem_append, List.mem_singleton]
  split
  · rename_i h
    rw [ih]
    constructor
    · exact .inl
    · rintro (h2 | h2)
      · exact h2
      · rw [h2]
        by_cases e : k = j
        · subst e; exact ih.mp h
        · exact absurd h2 e
  · rw [List.mem_append, List.mem_singleton, ih]
theorem dd_le (L : List Int) : (dd L).length ≤ L.length := by
  refine snoc_ind (P := fun L => (dd L).length ≤ L.length) (Nat.le_refl _) (fun l j ih => ?_) L
  rw [dd_snoc, List.length_append]
  split
  · show _ ≤ _ + 1
    omega
  · rw [List.length_append]
    show _ + 1 ≤ _ + 1
    omega
theorem dd_nodup (L : List Int) : (dd L).Nodup := by
  refine snoc_ind (P := fun L => (dd L).Nodup) (by simp [dd]) (fun l j ih => ?_) L
  rw [dd_snoc]
  split
  · exact ih
  · rename_i h
    refine List.nodup_append.mpr ⟨ih, by simp, fun a ha b hb e => h ?_⟩
    rw [List.mem_singleton.mp hb] at e
    rw [← e]
    exact ha
theorem dd_full {L : List Int} : (dd L).length = L.length ↔ L.Nodup := by
  constructor
  · refine snoc_ind (P := fun L => (dd L).length = L.length → L.Nodup) (fun _ => by simp) (fun l j ih => ?_) L
    rw [dd_snoc, List.length_append]
    intro h
    split at h
    · have := dd_le l
      have h : _ = _ + 1 := h
      omega
    · rename_i hn
      rw [List.length_append] at h
      have h : _ + 1 = _ + 1 := h
      refine List.nodup_append.mpr ⟨ih (by omega), by simp, fun a ha b hb e => hn ?_⟩
      rw [List.mem_singleton.mp hb] at e
      rw [← e]
      exact dd_mem.mpr ha
  · intro h
    have p : (dd L).Perm L := (List.perm_ext_iff_of_nodup (dd_nodup L) h).mpr fun _ => dd_mem
    exact p.length_eq
theorem dd_one {L : List Int} (hne : L ≠ []) : (dd L).length = 1 ↔ ∀ z ∈ L, z = L.headD 0 := by
  obtain ⟨a, r, rfl⟩ : ∃ a r, L = a :: r := by
    cases L with
    | nil => exact absurd rfl hne
    | cons a r => exact ⟨a, r, rfl⟩
  constructor
  · intro h z hz
    obtain ⟨y, hy⟩ := List.length_eq_one_iff.mp h
    have h1 : z ∈ dd (a :: r) := dd_mem.mpr hz
    have h2 : a ∈ dd (a :: r) := dd_mem.mpr List.mem_cons_self
    rw [hy, List.mem_singleton] at h1 h2
    rw [h1, ← h2]
    rfl
  · intro h
    have p : (dd (a :: r)).Perm [a] := (List.perm_ext_iff_of_nodup (dd_nodup _) (by simp)).mpr fun z => by
      rw [dd_mem, List.mem_singleton]
      constructor
      · exact fun hz => h z hz
      · intro e; rw [e]; exact List.mem_cons_self
    exact p.length_eq
theorem dd_met (ns : List Int) : PyProof.Rows.firstMet (fun i => ns.getD i 0) ns.length = dd ns := by
  have e : (List.range ns.length).map (fun i => ns.getD i 0) = ns := by
    apply List.ext_getElem
    · rw [List.length_map, List.length_range]
    · intro i h1 h2
      rw [List.getElem_map, List.getElem_range, List.getD_eq_getElem?_getD, List.getElem?_eq_getElem h2]
      rfl
  unfold PyProof.Rows.firstMet dd
  rw [e]
def tLenSetN (K : PySem.W.Frag) (ta : TE) : TE := fun σ H Q => ta σ H fun x H1 => ∃ (l : Addr) (ns : List Int), x = .ref l ∧ SqL K H1 l (LI ns) ∧ ns.length ≤ 4000 ∧ Q (.int ((dd ns).length : Nat)) H1
theorem pe_lenSetN {X : Cx} {a : Expr} {ta : TE} {p p2 q pos : Pos} (K : PySem.W.Frag) (hg : Gl X "len") (hm : X.mg "len" = none) (hg2 : Gl X "set") (hm2 : X.mg "set" = none) (ha : PE X a ta) (hc : X.calm = true := by rfl)
    (na : starEach [a] X.env = (false, eval a X.env) :: starEach [] X.env := by rfl) (hK : X.K = K := by rfl) : PE X (.Call (.Name "len" p) [.Call (.Name "set" p2) [a] [] q] [] pos) (tLenSetN K ta) := by
  subst hK
  refine ⟨fun pins s σ H Q I h => ?_⟩
  refine Call_ (ld_blt I hg hm boot_len ?_)
  refine PyProof.Rows.callWith_builtin1 (PyProof.Rows.args_cons ?_ rfl) rfl rfl
  refine Call_ (ld_blt I hg2 hm2 boot_set ?_)
  refine PyProof.Rows.callWith_type1 (PyProof.Rows.args_cons (thn (ha.run pins s σ H _ I h) fun v s1 ⟨x, H1, I1, r1, q1⟩ => PyProof.Rows.args_nil ?_) na) na rfl
  obtain ⟨l, ns, rfl, hq, hl, q1⟩ := q1
  cases r1
  obtain ⟨its, r, pl, hz⟩ := I1.list hq
  have hlen : its.toArray.size = ns.length := by rw [List.size_toArray, ← r.length, List.length_map]
  refine call_set_list (I1.ok.hd hc) pl.isList (by simpa using RZ.intsAre_vals r) (by rw [hlen]; unfold scanBound; omega) fun h' tk hS hk => ?_
  refine PyProof.Rows.args_nil ?_
  rw [hlen, dd_met] at hS
  have hle := dd_le ns
  obtain ⟨o, es, ep, t, ho, hex, hd, _, _, _, hf, hn⟩ := hS
  have I2 : Inv X pins σ H1 { s1 with heap := h', toks := tk } := I1.kept fun b o e => hk b o (Heap.lt_size e) e
  exact call_len_set ho hex hd hf (by rw [hn] <;> omega) ⟨.int (dd ns).length, H1, I2.tok _, ⟨_, by rw [hn]⟩, q1⟩
/-- isinstance knows an instance of the class at C -/
structure InsC (K : PySem.W.Frag) (C : Addr) : Prop where
  a : PySem.W.findIn K (.ref C) "__class__" = some (some (.builtin "object.__class__"))
  n : PySem.W.specialIn K (.builtin "object.__class__") "__get__" = some (some (.builtin "getset_descriptor.__get__"))
  t : PySem.W.takesIn K (.builtin "object.__class__") = some true
  m : PySem.W.mroIn K C (.type "object") = some true
def insB (K : PySem.W.Frag) (C : Str) : Bool := decide (PySem.W.findIn K (.ref (He.ga K C)) "__class__" = some (some (.builtin "object.__class__"))) && decide (PySem.W.mroIn K (He.ga K C) (.type "object") = some true) &&
  decide (PySem.W.specialIn K (.builtin "object.__class__") "__get__" = some (some (.builtin "getset_descriptor.__get__"))) && decide (PySem.W.takesIn K (.builtin "object.__class__") = some true)
def kitI (K : PySem.W.Frag) (C D : Str) (b : Bool) : Bool := decide (PySem.W.kitOne K (.ref (He.ga K C)) (.ref (He.ga K D)) = some b)
def kitT (K : PySem.W.Frag) (t : String) (D : Str) (b : Bool) : Bool := decide (PySem.W.kitOne K (.type t) (.ref (He.ga K D)) = some b)
def kitU (K : PySem.W.Frag) (C : Str) (t : String) (b : Bool) : Bool := decide (PySem.W.kitOne K (.ref (He.ga K C)) (.type t) = some b)
theorem insB_ok {K : PySem.W.Frag} {C : Str} (h : insB K C = true) : InsC K (He.ga K C) := by
  unfold insB at h
  rw [Bool.and_eq_true, Bool.and_eq_true, Bool.and_eq_true] at h
  obtain ⟨⟨⟨h1, h2⟩, h3⟩, h4⟩ := h
  exact ⟨of_decide_eq_true h1, of_decide_eq_true h3, of_decide_eq_true h4, of_decide_eq_true h2⟩
theorem ex_at {l : List Bool} (h : l.all id = true) (i : Nat) {b : Bool} (e : l[i]? = some b) : b = true := List.all_eq_true.mp h b (List.mem_of_getElem? e)
theorem ty_ins {K : PySem.W.Frag} {H : Hp} {a C dx : Addr} {fs : List (Str × V)} (e : H a = some (.ins C dx fs)) (c : Cls K C) (i : InsC K C) : TyX K H (.ref a) (.ref C) := .base (.ins e c i.a i.n i.t i.m)
/-! ### things kind by kind: alike ones stand together, a commonest kind stands first -/
theorem count_not {A : List Int} {k : Int} (h : A.count k = 0) : k ∉ A := List.count_eq_zero.mp h
theorem byc_run (L : List Int) (k : Int) : ∃ A C, byc L = A ++ List.replicate (L.count k) k ++ C ∧ k ∉ A ∧ k ∉ C := by
  by_cases h : k ∈ L
  · obtain ⟨s, t, e⟩ := List.append_of_mem (byK_mem.mpr h)
    refine ⟨s.flatMap fun j => List.replicate (L.count j) j, t.flatMap fun j => List.replicate (L.count j) j, ?_, ?_⟩
    · unfold byc
      rw [e, List.flatMap_append, List.flatMap_cons, List.append_assoc]
    · have nd := byK_nodup L
      rw [e] at nd
      obtain ⟨_, n2, n3⟩ := List.nodup_append.mp nd
      have h1 : k ∉ s := fun z => n3 k z k List.mem_cons_self rfl
      have h2 := (List.nodup_cons.mp n2).1
      constructor
      · intro z
        obtain ⟨j, hj, hz⟩ := List.mem_flatMap.mp z
        rw [(List.mem_replicate.mp hz).2] at h1
        exact h1 hj
      · intro z
        obtain ⟨j, hj, hz⟩ := List.mem_flatMap.mp z
        rw [(List.mem_replicate.mp hz).2] at h2
        exact h2 hj
  · refine ⟨[], byc L, ?_, by simp, fun z => h ((byc_perm L).mem_iff.mp z)⟩
    rw [List.count_eq_zero.mpr h]
    rfl
/-- alike things stand nearer than their number -/
theorem byc_near {L : List Int} {i j : Nat} (hij : i ≤ j) (hj : j < (byc L).length) (e : (byc L)[i]'(by omega) = (byc L)[j]) : j < i + L.count ((byc L)[j]) := by
  generalize hk : (byc L)[j] = k at e
  obtain ⟨A, C, eb, hA, hC⟩ := byc_run L k
  have gi : (byc L)[i]? = some k := by rw [List.getElem?_eq_getElem (by omega), e]
  have gj : (byc L)[j]? = some k := by rw [List.getElem?_eq_getElem hj, hk]
  rw [eb] at gi gj
  have h1 : A.length ≤ i := by
    refine Nat.le_of_not_lt fun z => hA ?_
    rw [List.append_assoc, List.getElem?_append_left z] at gi
    exact List.mem_of_getElem? gi
  have h2 : j < A.length + L.count k := by
    refine Nat.lt_of_not_le fun z => hC ?_
    rw [List.getElem?_append_right (by rw [List.length_append, List.length_replicate]; exact z)] at gj
    exact List.mem_of_getElem? gj
  omega
theorem mem_cn_of {L : List Int} {k : Int} (h : k ∈ L) : (k, (L.count k : Int)) ∈ cn L := (mem_cn (p := (k, (L.count k : Int)))).mpr ⟨h, rfl⟩
theorem cnt_le_most (L : List Int) (k : Int) : (L.count k : Int) ≤ mostI L := by
  by_cases h : k ∈ L
  · exact mx_le (List.mem_map_of_mem (f := Prod.snd) (mem_cn_of h))
  · rw [List.count_eq_zero.mpr h]
    exact mx_nn _
theorem most_mem {L : List Int} (h : L ≠ []) : ∃ k ∈ L, (L.count k : Int) = mostI L := by
  rcases mx_mem ((cn L).map (·.2)) with e | e
  · obtain ⟨z, r, rfl⟩ : ∃ z r, L = z :: r := by
      cases L with
      | nil => exact absurd rfl h
      | cons z r => exact ⟨z, r, rfl⟩
    have h1 := cnt_le_most (z :: r) z
    have h2 : 1 ≤ (z :: r).count z := List.one_le_count_iff.mpr List.mem_cons_self
    have h3 : mostI (z :: r) = 0 := e
    omega
  · obtain ⟨p, hp, e2⟩ := List.mem_map.mp e
    obtain ⟨h1, h2⟩ := mem_cn.mp hp
    exact ⟨p.1, h1, by rw [← h2]; exact e2⟩
theorem most_le_len (L : List Int) : mostI L ≤ L.length := by
  by_cases h : L = []
  · subst h
    have : cn [] = [] := by simp [cn, srt, tally]
    unfold mostI
    rw [this]
    exact Int.le_refl 0
  · obtain ⟨k, _, e⟩ := most_mem h
    rw [← e]
    have : L.count k ≤ L.length := List.count_le_length
    omega
theorem most_nn (L : List Int) : 0 ≤ mostI L := mx_nn _
theorem byLe_total (a b : Int × Int) : (byLe a b || byLe b a) = true := by
  unfold byLe
  rw [Bool.or_eq_true, decide_eq_true_eq, decide_eq_true_eq]
  omega
theorem byLe_trans (a b c : Int × Int) (h1 : byLe a b = true) (h2 : byLe b c = true) : byLe a c = true := by
  unfold byLe at *
  rw [decide_eq_true_eq] at *
  omega
theorem byc_head {L : List Int} (h : L ≠ []) : ∃ k C, byc L = List.replicate (L.count k) k ++ C ∧ k ∉ C ∧ (L.count k : Int) = mostI L ∧ k ∈ L := by
  have hp := List.mergeSort_perm (cn L) byLe
  have hs := List.pairwise_mergeSort (le := byLe) byLe_trans byLe_total (cn L)
  obtain ⟨p, r, e⟩ : ∃ p r, (cn L).mergeSort byLe = p :: r := by
    cases e : (cn L).mergeSort byLe with
    | nil =>
      rw [e] at hp
      obtain ⟨k, hk, _⟩ := most_mem h
      have := hp.symm.mem_iff.mp (mem_cn_of hk)
      cases this
    | cons p r => exact ⟨p, r, rfl⟩
  have hpm : p ∈ cn L := hp.mem_iff.mp (by rw [e]; exact List.mem_cons_self)
  obtain ⟨h1, h2⟩ := mem_cn.mp hpm
  have ek : byK (cn L) = p.1 :: r.map (·.1) := by
    unfold byK
    rw [e]
    rfl
  have nd := byK_nodup L
  rw [ek] at nd
  refine ⟨p.1, (r.map (·.1)).flatMap fun j => List.replicate (L.count j) j, ?_, ?_, ?_, h1⟩
  · unfold byc
    rw [ek, List.flatMap_cons]
  · intro z
    obtain ⟨j, hj, hz⟩ := List.mem_flatMap.mp z
    rw [← (List.mem_replicate.mp hz).2] at hj
    exact (List.nodup_cons.mp nd).1 hj
  · obtain ⟨k, hk, hm⟩ := most_mem h
    have hle := cnt_le_most L p.1
    have hq : (k, (L.count k : Int)) ∈ (cn L).mergeSort byLe := hp.symm.mem_iff.mp (mem_cn_of hk)
    rw [e] at hq hs
    rcases List.mem_cons.mp hq with e2 | e2
    · rw [← e2]
      exact hm
    · have h3 := (List.pairwise_cons.mp hs).1 _ e2
      unfold byLe at h3
      rw [decide_eq_true_eq] at h3
      simp only at h3
      omega
theorem byc_nil : byc [] = [] := List.length_eq_zero_iff.mp (byc_len [])
theorem byc_count (L : List Int) (k : Int) : (byc L).count k = L.count k := (byc_perm L).count_eq k
theorem headD_get {l : List Int} (h : 0 < l.length) : l.headD 0 = l[0] := by
  cases l with
  | nil => cases h
  | cons z r => rfl
theorem most_nil : mostI [] = 0 := by simp [mostI, cn, srt, tally, mx]
/-! ### pairs, an instance made -/
def flatT (T : Tab) : List Int := T.flatMap fun p => [p.1, p.2]
theorem flatT_len (T : Tab) : (flatT T).length = 2 * T.length := by
  induction T with
  | nil => rfl
  | cons p r ih =>
    show (p.1 :: p.2 :: flatT r).length = _
    simp [ih]
    omega
theorem flatT_snoc (T : Tab) (p : Int × Int) : flatT (T ++ [p]) = flatT T ++ [p.1, p.2] := by
  unfold flatT
  rw [List.flatMap_append]
  rfl
/-- all but a stay -/
def SameX (a : Addr) (H H' : Hp) : Prop := ∀ b o, b ≠ a → H b = some o → H' b = some o
section
variable {K : PySem.W.Frag} {H H' : Hp} {a p C dx : Addr} {fs : List (Str × V)} {xs : List V}
theorem SameX.seq (s : SameX a H H') (hi : H a = some (.ins C dx fs)) (h : SqL K H p xs) : SqL K H' p xs := by
  rcases h with (h | ⟨o, h⟩) | h
  · exact .inl (.inl (s _ _ (fun z => by rw [z, hi] at h; cases h) h))
  · exact .inl (.inr ⟨o, s _ _ (fun z => by rw [z, hi] at h; cases h) h⟩)
  · exact .inr h
theorem SameX.same (s : SameX a H H') (h : H a = none) : Same H H' := fun b o e => s b o (ne_of_none e h) e
end
/-- the pairs show the heap M with LF left -/
def showsP (PS : Tab) (LF M : List Int) : Bool := PS.all (fun p => decide (p.1 ≠ p.2)) && (decide (srt (LF ++ flatT PS) = srt M) && (decide (LF.length < 2) || (LF.all (fun z => decide (z = LF.headD 0)) && PS.all (fun p => decide (LF.headD 0 = p.1) || decide (LF.headD 0 = p.2)))))
theorem inV_li (k : Int) (L : List Int) : inV (.int k) (LI L) = decide (k ∈ L) := by
  induction L with
  | nil => rfl
  | cons a r ih =>
    show (eqV (.int a) (.int k) || inV (.int k) (LI r)) = _
    rw [ih]
    have : eqV (.int a) (.int k) = decide (a = k) := by
      by_cases e : a = k <;> simp [eqV, e]
    rw [this]
    by_cases e : a = k
    · subst e
      simp
    · have : ¬ k = a := fun z => e z.symm
      simp [e, this]
/-- a list changed: the tuples stay -/
theorem tup_upd {K : PySem.W.Frag} {H : Hp} {p t : Addr} {o : HO} {xs ys : List V} (e : H p = some (.lst xs)) (h : SqT K H t ys) : SqT K (upd H p o) t ys := by
  rcases h with (h | ⟨u, h⟩) | h
  · exact .inl (.inl (by rw [upd_ne (fun z => by rw [z, e] at h; cases h)]; exact h))
  · exact .inl (.inr ⟨u, by rw [upd_ne (fun z => by rw [z, e] at h; cases h)]; exact h⟩)
  · exact .inr h
theorem TupsAt.upd {K : PySem.W.Frag} {H : Hp} {p : Addr} {o : HO} {xs : List V} (e : H p = some (.lst xs)) : ∀ {ts : List Addr} {T : Tab}, TupsAt K H ts T → TupsAt K (upd H p o) ts T
  | _, _, .nil => .nil
  | _, _, .cons h t => .cons (tup_upd e h) (TupsAt.upd e t)
theorem TupsAt.sm {K : PySem.W.Frag} {H H' : Hp} (s : Sm K H H') : ∀ {ts : List Addr} {T : Tab}, TupsAt K H ts T → TupsAt K H' ts T
  | _, _, .nil => .nil
  | _, _, .cons h t => .cons (s.tup h) (TupsAt.sm s t)
theorem tups_snoc {K : PySem.W.Frag} {H : Hp} {t : Addr} {p : Int × Int} (h : SqT K H t [.int p.1, .int p.2]) : ∀ {ts : List Addr} {T : Tab}, TupsAt K H ts T → TupsAt K H (ts ++ [t]) (T ++ [p])
  | _, _, .nil => .cons h .nil
  | _, _, .cons k r => .cons k (tups_snoc h r)
theorem tups_map2 {K : PySem.W.Frag} {H : Hp} {α : Type} {f : α → Int × Int} : ∀ {ts : List Addr} {ks : List α}, ObjsAt H (fun k => .tup [.int (f k).1, .int (f k).2]) ts ks → TupsAt K H ts (ks.map f)
  | _, _, .nil => .nil
  | _, _, .cons h t => .cons (SqT.of h) (tups_map2 t)
theorem tabK_nil {K : PySem.W.Frag} {H : Hp} (h : H (He.cT K ("by_count", none)).2 = some (.tbl #[])) : TabK K H := fun p hp => by
  rw [List.mem_singleton.mp hp]
  exact LamX.TabS.nil h
/-! ### slices -/
theorem cut_from (xs : List V) (n : Nat) : cutV xs (some (n : Int)) none = xs.drop n := by
  unfold cutV
  rw [HT.sIx_nat, HT.sIx_none]
  by_cases h : n ≤ xs.length
  · rw [Nat.min_eq_left h]
    exact List.take_of_length_le (by rw [List.length_drop]; omega)
  · rw [Nat.min_eq_right (by omega), List.drop_of_length_le (Nat.le_refl _), List.drop_of_length_le (by omega)]
    simp
theorem cut_to (xs : List V) (n : Nat) : cutV xs none (some (n : Int)) = xs.take n := by
  unfold cutV
  rw [HT.sIx_nat, HT.sIx_none, List.drop_zero, Nat.sub_zero]
  by_cases h : n ≤ xs.length
  · rw [Nat.min_eq_left h]
  · rw [Nat.min_eq_right (by omega), List.take_of_length_le (Nat.le_refl _), List.take_of_length_le (by omega)]
theorem six_m1 (n d : Nat) : HT.sIx n d (some (-1)) = n - 1 := by
  show (if (-1 : Int) < 0 then ((-1 : Int) + (n : Int)).toNat else min (-1 : Int).toNat n) = n - 1
  rw [if_pos (by decide)]
  omega
theorem cut_to_last (xs : List V) : cutV xs none (some (-1)) = xs.dropLast := by
  unfold cutV
  rw [six_m1, HT.sIx_none, List.drop_zero, Nat.sub_zero, List.dropLast_eq_take]
theorem cut_last (xs : List V) : cutV xs (some (-1)) none = xs.drop (xs.length - 1) := by
  unfold cutV
  rw [six_m1, HT.sIx_none]
  exact List.take_of_length_le (by rw [List.length_drop]; omega)
theorem li_drop (L : List Int) (n : Nat) : (LI L).drop n = LI (L.drop n) := by rw [LI, LI, List.map_drop]
theorem li_take (L : List Int) (n : Nat) : (LI L).take n = LI (L.take n) := by rw [LI, LI, List.map_take]
/-! ### pairs of a heap -/
structure PairOK (L : List Int) (PS : Tab) (LF : List Int) : Prop where
  perm : (LF ++ flatT PS).Perm L
  ne : ∀ p ∈ PS, p.1 ≠ p.2
  one : 2 ≤ LF.length → (∀ z ∈ LF, z = LF.headD 0) ∧ ∀ p ∈ PS, LF.headD 0 = p.1 ∨ LF.headD 0 = p.2
  num : (LF.length : Int) = max ((L.length : Int) % 2) (2 * mostI L - L.length)
theorem PairOK.shows {L : List Int} {PS : Tab} {LF : List Int} (h : PairOK L PS LF) : showsP PS LF L = true := by
  unfold showsP
  rw [Bool.and_eq_true, Bool.and_eq_true, Bool.or_eq_true, Bool.and_eq_true]
  refine ⟨List.all_eq_true.mpr fun p hp => decide_eq_true (h.ne p hp), decide_eq_true (srt_eq_iff.mpr h.perm), ?_⟩
  by_cases e : LF.length < 2
  · exact .inl (decide_eq_true e)
  · obtain ⟨h1, h2⟩ := h.one (by omega)
    refine .inr ⟨List.all_eq_true.mpr fun z hz => decide_eq_true (h1 z hz), List.all_eq_true.mpr fun p hp => ?_⟩
    rw [Bool.or_eq_true, decide_eq_true_eq, decide_eq_true_eq]
    exact h2 p hp
theorem flat_fst (k : Int) (C : List Int) : (flatT (C.map fun z => (k, z))).Perm (List.replicate C.length k ++ C) := by
  induction C with
  | nil => exact .refl _
  | cons a r ih =>
    show (k :: a :: flatT (r.map fun z => (k, z))).Perm (List.replicate (r.length + 1) k ++ a :: r)
    rw [List.replicate_succ]
    refine List.Perm.cons k ?_
    exact (List.Perm.cons a ih).trans List.perm_middle.symm
/-- more than half of one kind, or half -/
theorem pair_much {L : List Int} {m n : Nat} (hn : L.length = n) (hm : (m : Int) = mostI L) (h : n ≤ 2 * m) :
    PairOK L (((byc L).drop m).map fun z => ((byc L).headD 0, z)) ((byc L).take (m - (n - m))) := by
  by_cases hL : L = []
  · subst hL
    rw [byc_nil]
    have : mostI [] = 0 := by simp [mostI, cn, srt, tally, mx]
    rw [this] at hm
    exact ⟨by simp [flatT], by simp, by simp, by simp [this]⟩
  · obtain ⟨k, C, eb, hC, hk, hkL⟩ := byc_head hL
    have ek : L.count k = m := by omega
    rw [ek] at eb
    have hpos : 0 < m := by
      have := List.one_le_count_iff.mpr hkL
      omega
    have hlen : m + C.length = n := by
      have := byc_len L
      rw [eb, List.length_append, List.length_replicate] at this
      omega
    have e1 : (byc L).drop m = C := by rw [eb, List.drop_left' (by simp)]
    have e2 : (byc L).headD 0 = k := by
      rw [eb]
      obtain ⟨j, rfl⟩ : ∃ j, m = j + 1 := ⟨m - 1, by omega⟩
      rfl
    have e3 : (byc L).take (m - (n - m)) = List.replicate (m - C.length) k := by
      rw [eb, List.take_append_of_le_length (by rw [List.length_replicate]; omega), List.take_replicate]
      congr 1
      omega
    rw [e1, e2, e3]
    refine ⟨?_, ?_, ?_, ?_⟩
    · refine List.Perm.trans ?_ (byc_perm L)
      rw [eb]
      refine (List.Perm.append_left _ (flat_fst k C)).trans ?_
      rw [← List.append_assoc, List.replicate_append_replicate]
      rw [show m - C.length + C.length = m by omega]
    · intro p hp
      obtain ⟨z, hz, rfl⟩ := List.mem_map.mp hp
      exact fun e => hC (by rw [show k = z from e]; exact hz)
    · intro h2
      rw [List.length_replicate] at h2
      have e4 : (List.replicate (m - C.length) k).headD 0 = k := by
        obtain ⟨j, e⟩ : ∃ j, m - C.length = j + 1 := ⟨m - C.length - 1, by omega⟩
        rw [e]
        rfl
      rw [e4]
      refine ⟨fun z hz => (List.mem_replicate.mp hz).2, fun p hp => ?_⟩
      obtain ⟨z, hz, rfl⟩ := List.mem_map.mp hp
      exact .inl rfl
    · rw [List.length_replicate, ← hm, hn]
      omega
theorem flat_zip : ∀ {A B : List Int}, A.length = B.length → (flatT (A.zip B)).Perm (A ++ B)
  | [], [], _ => .refl _
  | [], _ :: _, h => by cases h
  | _ :: _, [], h => by cases h
  | a :: r, b :: t, h => by
    show (a :: b :: flatT (r.zip t)).Perm (a :: (r ++ b :: t))
    refine List.Perm.cons a ((List.Perm.cons b (flat_zip (by simpa using h))).trans List.perm_middle.symm)
/-- none has half -/
theorem pair_few {L : List Int} {n : Nat} (hn : L.length = n) (h : 2 * mostI L < n) :
    PairOK L (((byc L).take (n / 2)).zip (((byc L).drop (n / 2)).take (n / 2))) ((byc L).drop (2 * (n / 2))) := by
  have hb : (byc L).length = n := by rw [byc_len, hn]
  refine ⟨?_, ?_, ?_, ?_⟩
  · refine List.Perm.trans ?_ (byc_perm L)
    refine (List.Perm.append_left _ (flat_zip (by rw [List.length_take, List.length_take, List.length_drop, hb]; omega))).trans ?_
    refine List.perm_append_comm.trans ?_
    rw [List.append_assoc]
    have : 2 * (n / 2) = n / 2 + n / 2 := by omega
    rw [this, ← List.drop_drop, List.take_append_drop, List.take_append_drop]
  · intro p hp
    obtain ⟨i, hi, e⟩ := List.getElem_of_mem hp
    rw [List.length_zip, List.length_take, List.length_take, List.length_drop, hb] at hi
    rw [List.getElem_zip, List.getElem_take, List.getElem_take, List.getElem_drop] at e
    rw [← e]
    intro z
    have z : (byc L)[i]'(by omega) = (byc L)[n / 2 + i]'(by omega) := z
    have h1 := byc_near (L := L) (i := i) (j := n / 2 + i) (by omega) (by omega) z
    have h2 := cnt_le_most L ((byc L)[n / 2 + i]'(by omega))
    omega
  · intro h2
    rw [List.length_drop, hb] at h2
    omega
  · rw [List.length_drop, hb, hn]
    have := most_nn L
    omega
theorem byc_head_count (L : List Int) (h : L ≠ []) : ((byc L).count ((byc L).headD 0) : Int) = mostI L := by
  obtain ⟨k, C, eb, hC, hk, hkL⟩ := byc_head h
  have e2 : (byc L).headD 0 = k := by
    rw [eb]
    obtain ⟨j, e⟩ : ∃ j, L.count k = j + 1 := ⟨L.count k - 1, by have := List.one_le_count_iff.mpr hkL; omega⟩
    rw [e]
    rfl
  rw [e2, byc_count, hk]
theorem showsP_len {PS : Tab} {LF M : List Int} (h : LF.length + 2 * PS.length ≠ M.length) : showsP PS LF M = false := by
  unfold showsP
  have : decide (srt (LF ++ flatT PS) = srt M) = false := decide_eq_false fun z => h (by
    have := (srt_eq_iff.mp z).length_eq
    rw [List.length_append, flatT_len] at this
    exact this)
  rw [this, Bool.false_and, Bool.and_false]
theorem li_getD {L : List Int} {i : Nat} (h : i < L.length) : (LI L)[i]? = some (.int (L.getD i 0)) := by
  rw [li_get h, List.getD_eq_getElem?_getD, List.getElem?_eq_getElem h]
  rfl
theorem dec_ne (i j : Int) : (some (V.bl (decide (i ≠ j))) : Option V) = some (.bl (!decide (V.int i = V.int j))) := by
  by_cases e : i = j
  · simp [e]
  · have : ¬ V.int i = V.int j := fun z => e (V.int.inj z)
    simp [e, this]
theorem at_back {xs : List V} {z : Int} {j : Nat} {v : V} (h0 : z < 0) (e : z + (xs.length : Int) = (j : Int)) (h : xs[j]? = some v) : atI xs z = some v := by
  unfold atI ixN
  obtain ⟨hj, _⟩ := List.getElem?_eq_some_iff.mp h
  rw [if_neg (by omega), if_pos (by omega), show (z + (xs.length : Int)).toNat = j by omega]
  exact h
/-! ### xs[a::2] = ys -/
/-- the places a, a + 2, .. below n -/
def stp (a n : Nat) : List Nat := (List.range ((n + 1 - a) / 2)).map fun k => a + 2 * k
def puts {α : Type} (ps : List Nat) (ys xs : List α) : List α := (ps.zip ys).foldl (fun xs p => xs.set p.1 p.2) xs
theorem puts_vals : ∀ (ps : List Nat) {us : List Value} {ys : List V} {ws : List Value} {xs : List V}, Vals ys us → Vals xs ws → Vals (puts ps ys xs) ((ps.zip us).foldl (fun xs p => xs.set p.1 p.2) ws)
  | [], _, _, _, _, _, h => h
  | _ :: _, _, _, _, _, .nil, h => h
  | p :: ps, _, _, _, _, .cons r t, h => puts_vals ps t (h.set r p)
theorem puts_arr : ∀ (l : List (Nat × Value)) (arr : Array Value), (l.foldl (fun xs (p : Nat × Value) => xs.setIfInBounds p.1 p.2) arr) = (l.foldl (fun xs (p : Nat × Value) => xs.set p.1 p.2) arr.toList).toArray
  | [], arr => by simp
  | p :: l, arr => by
    show List.foldl _ (arr.setIfInBounds p.1 p.2) l = _
    rw [puts_arr l]
    show _ = (List.foldl _ (arr.toList.set p.1 p.2) l).toArray
    rw [Array.toList_setIfInBounds]
theorem puts_len {α : Type} : ∀ (ps : List Nat) (ys xs : List α), (puts ps ys xs).length = xs.length
  | [], _, _ => rfl
  | _ :: _, [], _ => rfl
  | p :: ps, y :: ys, xs => by
    show (puts ps ys (xs.set p y)).length = _
    rw [puts_len ps ys, List.length_set]
theorem puts_off {α : Type} {j : Nat} : ∀ (ps : List Nat) (ys xs : List α), j ∉ ps → (puts ps ys xs)[j]? = xs[j]?
  | [], _, _, _ => rfl
  | _ :: _, [], _, _ => rfl
  | p :: ps, y :: ys, xs, h => by
    show (puts ps ys (xs.set p y))[j]? = _
    rw [puts_off ps ys _ (fun z => h (List.mem_cons_of_mem _ z)), List.getElem?_set_ne (fun z => h (by rw [z]; exact List.mem_cons_self))]
theorem puts_at {α : Type} : ∀ (ps : List Nat) (ys xs : List α) (k : Nat), ps.Nodup → ps.length = ys.length → (∀ p ∈ ps, p < xs.length) → ∀ hk : k < ps.length, (puts ps ys xs)[ps[k]]? = ys[k]?
  | [], _, _, _, _, _, _, hk => absurd hk (Nat.not_lt_zero _)
  | _ :: _, [], _, _, _, h, _, _ => by cases h
  | p :: ps, y :: ys, xs, 0, nd, hl, hb, _ => by
    show (puts ps ys (xs.set p y))[p]? = some y
    rw [puts_off ps ys _ (List.nodup_cons.mp nd).1, List.getElem?_set_self (hb p List.mem_cons_self)]
  | p :: ps, y :: ys, xs, k + 1, nd, hl, hb, hk => by
    show (puts ps ys (xs.set p y))[ps[k]'(Nat.lt_of_succ_lt_succ hk)]? = ys[k]?
    exact puts_at ps ys _ k (List.nodup_cons.mp nd).2 (by simpa using hl) (fun q hq => by rw [List.length_set]; exact hb q (List.mem_cons_of_mem _ hq)) _
theorem puts_li (ps : List Nat) (ys xs : List Int) : puts ps (LI ys) (LI xs) = LI (puts ps ys xs) := by
  induction ps generalizing ys xs with
  | nil => rfl
  | cons p ps ih =>
    cases ys with
    | nil => rfl
    | cons y ys =>
      show puts ps (LI ys) ((LI xs).set p (.int y)) = LI (puts ps ys (xs.set p y))
      rw [show (LI xs).set p (.int y) = LI (xs.set p y) from (List.map_set ..).symm, ih]
theorem stp_range {a n : Nat} (ha : a ≤ 1) : sliceRange (max 0 (min (a : Int) n)) n 2 = stp a n := by
  unfold sliceRange stp
  rw [if_pos (show (2 : Int) > 0 by decide)]
  by_cases h : a ≤ n
  · rw [show max 0 (min (a : Int) n) = (a : Int) by omega]
    by_cases h2 : (a : Int) < n
    · simp only [if_pos h2]
      rw [show (((n : Int) - a + 2 - 1) / 2).toNat = (n + 1 - a) / 2 by omega]
      refine List.map_congr_left fun k _ => ?_
      omega
    · simp only [if_neg h2]
      rw [show (n + 1 - a) / 2 = 0 by omega]
      rfl
  · rw [show max 0 (min (a : Int) n) = (n : Int) by omega]
    simp only [if_neg (show ¬ ((n : Int) < n) by omega)]
    rw [show (n + 1 - a) / 2 = 0 by omega]
    rfl
section
variable {prog : Program} {w : World} {A : Around} {E : Value → Shared → Prop} {s : Shared}
theorem setItem_step2 {l b sl : Addr} {items new : Array Value} {n n2 : Nat} {vl vs : Value} {a : Nat} {Q : Unit → Shared → Prop}
    (e : s.heap.get? l = some { cls := .type "list", data := .seq items n }) (e2 : s.heap.get? b = some { cls := .type "list", data := .seq new n2 }) (hne : l ≠ b)
    (hs : s.heap.IsSliceOf sl vl .none vs) (pl : IsPart vl (some (a : Int))) (ps : IsPart vs (some 2)) (ha : a ≤ 1) (hn : new.size = (items.size + 1 - a) / 2)
    (hsz : items.size ≤ sizeLine) (h : Q () { s with heap := s.heap.update l (Obj.mapSeq fun xs => ((stp a items.size).zip new.toList).foldl (fun xs (p : Nat × Value) => xs.setIfInBounds p.1 p.2) xs) }) :
    wpAny (model prog w) A (setItem (.ref l) (.ref sl) (.ref b)) Q E s := by
  have hl : s.heap.IsList l items := PySem.IsL.isList e
  have hb : s.heap.IsList b new := PySem.IsL.isList e2
  obtain ⟨os, hos, hcs, hds⟩ := id hs
  have hTs : s.TypeIs (.ref sl) "slice" := ⟨os, hos, hcs⟩
  have hstep : ¬ ((rawPart (some 2) == rawInt 0) = true) := Bool.false_ne_true
  have hsame : Builtin.List.listSameRef (.ref l) (.ref b) = false := by
    unfold Builtin.List.listSameRef
    exact beq_eq_false_iff_ne.mpr hne
  have hbd : sliceBounds (some (a : Int)) none (some 2) items.size = (max 0 (min (a : Int) items.size), (items.size : Int), 2) := by
    simp only [sliceBounds, Option.getD_some]
    have h1 : ¬ ((a : Int) < 0) := by omega
    simp only [h1, if_false, show (2 : Int) > 0 by decide, if_true]
  have hz' : ((fun xs : Array Value => ((stp a items.size).zip new.toList).foldl (fun xs (p : Nat × Value) => xs.setIfInBounds p.1 p.2) xs) items).size ≤ sizeLine + 1 := by
    have e3 : ((fun xs : Array Value => ((stp a items.size).zip new.toList).foldl (fun xs (p : Nat × Value) => xs.setIfInBounds p.1 p.2) xs) items).size = items.size := by
      show (List.foldl (fun xs (p : Nat × Value) => xs.setIfInBounds p.1 p.2) items _).size = _
      rw [puts_arr, List.size_toArray]
      exact puts_len (α := Value) _ _ _
    rw [e3]
    omega
  unfold setItem
  try with_reducible refine wpAny_holding ?_
  first | refine wpAny_bind (wpAny_pure ?_) | skip
  refine wpAny_bind (wpAny_sequenceKey hl.typeIs (by decide) ?_)
  refine wpAny_bind (wpAny_callSpecial?_slot (name := Str.ofString "__setitem__") hl.typeIs slot_list_setitem
    (wpAny_call_entry slot_list_setitem hl.typeIs entry_list_setitem ?_ (args_list_setitem _ _ _)))
  show wpAny _ _ (Builtin.List.listSubscript? (.ref sl) >>= _) _ _ s
  refine wpAny_bind ?_
  unfold Builtin.List.listSubscript?
  refine wpAny_bind (wpAny_specialOf hTs slice_no_index ?_)
  simp only [Option.isNone_none, if_true]
  refine wpAny_pure ?_
  show wpAny _ _ (typeOf (.ref sl) >>= _) _ _ s
  refine wpAny_bind (wpAny_typeOf hTs ?_)
  first
    | rw [if_neg (by decide)]
    | refine PySem.W.KFB.if_not (by decide) ?_
  rw [listSliceParts_eq]
  refine wpAny_bind (wpAny_bind (wpAny_field hos hds (x := vs) rfl (wpAny_bind (wpAny_listPart ps ?_))))
  rw [if_neg hstep]
  refine wpAny_bind (wpAny_field hos hds (x := vl) rfl (wpAny_bind (wpAny_listPart pl ?_)))
  refine wpAny_bind (wpAny_field hos hds (x := .none) rfl (wpAny_bind (wpAny_listPart .none (wpAny_pure ?_))))
  first
    | simp only [hsame, Bool.false_eq_true, if_false]
    | refine PySem.W.KFB.if_not hsame ?_
    | (dsimp only
       rw [if_neg (by rw [hsame]; exact Bool.false_ne_true)])
  refine wpAny_bind (m := Builtin.List.listAllItems (.ref b) "must assign iterable to extended slice") ?_
  unfold Builtin.List.listAllItems
  refine wpAny_bind (wpAny_typeOf hb.typeIs ?_)
  first
    | refine PySem.W.KFB.if_so (by decide) ?_
    | rw [if_pos (by decide)]
    | simp only [beq_self_eq_true, Bool.true_or, if_true]
  unfold Builtin.List.listItems
  refine wpAny_bind (wpAny_seqItems e2 rfl (wpAny_pure ?_))
  refine wpAny_bind (wpAny_bind (wpAny_seqItems e rfl (wpAny_pure ?_)))
  refine wpAny_bind (wpAny_of_eq ((sliceIndices_raw (some (a : Int)) none (some 2) items.size (by simp)).trans (congrArg (pure : Int × Int × Int → Sem (Int × Int × Int)) hbd)) ?_)
  show wpAny _ _ (if ((2 : Int) == 1) = true then _ else _) _ _ s
  rw [if_neg (by decide)]
  show wpAny _ _ (if (new.size != (sliceRange (max 0 (min (a : Int) items.size)) items.size 2).length) = true then _ else _) _ _ s
  rw [stp_range ha]
  have hne2 : ¬ ((new.size != (stp a items.size).length) = true) := by
    rw [hn]
    simp [stp]
  rw [if_neg hne2]
  refine wpAny_bind (wpAny_rule ?_)
  show wpAny _ _ (updateSeq l (fun xs => ((stp a items.size).zip new.toList).foldl (fun xs (p : Nat × Value) => xs.setIfInBounds p.1 p.2) xs) >>= _) _ _ s
  refine wpAny_bind (wpAny_updateSeq (hz := hsz) (_hz' := hz') e rfl ?_)
  refine wpAny_bind (wpAny_letGo ?_)
  first
    | exact wpAny_bind (wpAny_pure (wpAny_pure ⟨.none, rfl, wpAny_pure h⟩))
    | exact wpAny_pure ⟨.none, rfl, wpAny_pure h⟩
end
section
variable {X : Cx}
def gStep (a : Nat) (to : TE) : TG := fun v σ H Q => to σ H fun x H1 => ∃ l b xs ys, x = .ref l ∧ v = .ref b ∧ H1 l = some (.lst xs) ∧ H1 b = some (.lst ys) ∧ l ≠ b ∧ ys.length = (xs.length + 1 - a) / 2 ∧ Q σ (upd H1 l (.lst (puts (stp a xs.length) ys xs)))
theorem pg_step {a : Nat} {o : Expr} {to : TE} {k1 k2 : Nat} {p1 p2 p3 pos : Pos} (ho : PE X o to) (hal : a ≤ 1)
    (ha : ∀ v, assign (.Subscript o (.Slice (some (.Constant (.int (a : Int)) k1 p1)) none (some (.Constant (.int 2) k2 p2)) p3) pos) X.env v = (do
      let ov ← holding [v] (eval o X.env)
      let iv ← holding [v, ov] (eval (.Slice (some (.Constant (.int (a : Int)) k1 p1)) none (some (.Constant (.int 2) k2 p2)) p3) X.env)
      standAt pos
      holding [v, ov, iv] (setItem ov iv v)
      release [v, ov, iv] []) := by intro _; rfl) : PG X (.Subscript o (.Slice (some (.Constant (.int (a : Int)) k1 p1)) none (some (.Constant (.int 2) k2 p2)) p3) pos) (gStep a to) := by
  refine ⟨fun pins s σ H v u Q I r h => ?_⟩
  rw [ha]
  refine wpAny_bind (wpAny_holding (thn (ho.run pins s σ H _ I h) fun ov s1 ⟨x, H1, I1, r1, l, b, xs, ys, ex, ev, hl, hb, hne, hn, q1⟩ => ?_))
  subst ex ev
  cases r1
  cases r
  have hlo : PO X (some (.Constant (.int (a : Int)) k1 p1)) (tPart (tC (.int (a : Int)))) := po_some pe_int
  have hst : PO X (some (.Constant (.int 2) k2 p2)) (tPart (tC (.int 2))) := po_some pe_int
  refine wpAny_bind (wpAny_holding ?_)
  refine wpAny_Slice (thn (hlo.run pins s1 σ H1 (fun lo H2 => lo = some (a : Int) ∧ H2 = H1) I1 ⟨_, rfl, rfl, rfl⟩) fun vl s2 ⟨lo, H2, I2, pl, elo, eH⟩ => ?_)
  subst elo eH
  rw [evalPart_none]
  refine wpAny_pure ?_
  refine thn (hst.run pins s2 σ H2 (fun lo H3 => lo = some 2 ∧ H3 = H2) I2 ⟨_, rfl, rfl, rfl⟩) fun vs s3 ⟨st, H3, I3, ps, est, eH⟩ => ?_
  subst est eH
  have I4 : Inv X pins σ H3 { s3 with heap := s3.heap.push { cls := .type "slice", data := .fields #[vl, .none, vs] } } := I3.kept (t' := s3.toks) fun b ob q => Heap.get?_push_of_some _ q
  refine wpAny_bind (wpAny_standAt (wpAny_bind (wpAny_holding ?_)))
  obtain ⟨z, its, n, r, hll, e⟩ := I4.lstM hl
  obtain ⟨z2, its2, n2, r2, hl2, e2⟩ := I4.lstM hb
  refine setItem_step2 (a := a) e e2 hne (Heap.IsSliceOf.new ..) pl ps hal (by rw [List.size_toArray, List.size_toArray]; omega) (by rw [List.size_toArray]; omega) (wpAny_release ?_)
  refine ⟨σ, _, ?_, q1⟩
  have z0 : xs.length ≤ sizeLine := by omega
  rw [show its.toArray.size = xs.length by rw [List.size_toArray]; omega]
  refine I4.lset (its' := ((stp a xs.length).zip its2).foldl (fun xs p => xs.set p.1 p.2) its) (t' := s3.toks) hl e ?_ (puts_vals _ r2 r) (by rw [puts_len]; exact z0)
  exact puts_arr _ _
end
/-! ### a row laid: the first half in every other place, the second between -/
def il : List Int → List Int → List Int
  | [], t => t
  | a :: r, [] => a :: r
  | a :: r, b :: t => a :: b :: il r t
theorem il_perm : ∀ s t : List Int, (il s t).Perm (s ++ t)
  | [], t => .refl _
  | a :: r, [] => by simp [il]
  | a :: r, b :: t => by
    show (a :: b :: il r t).Perm (a :: (r ++ b :: t))
    exact List.Perm.cons a ((List.Perm.cons b (il_perm r t)).trans List.perm_middle.symm)
theorem il_at : ∀ (s t : List Int), t.length ≤ s.length → s.length ≤ t.length + 1 → ∀ i, (il s t)[2 * i]? = s[i]? ∧ (il s t)[2 * i + 1]? = t[i]?
  | [], [], _, _, i => by simp [il]
  | [], _ :: _, h, _, _ => by cases h
  | [a], [], _, _, i => by
    cases i with
    | zero => exact ⟨rfl, rfl⟩
    | succ i => exact ⟨by simp [il, Nat.mul_add], by simp [il]⟩
  | a :: b :: r, [], _, h, _ => by simp at h
  | a :: r, b :: t, h1, h2, i => by
    cases i with
    | zero => exact ⟨rfl, rfl⟩
    | succ i => exact il_at r t (Nat.le_of_succ_le_succ h1) (Nat.le_of_succ_le_succ h2) i
def lay (L : List Int) : List Int := il ((byc L).take ((L.length + 1) / 2)) ((byc L).drop ((L.length + 1) / 2))
theorem lay_perm (L : List Int) : (lay L).Perm L := by
  refine (il_perm _ _).trans ?_
  rw [List.take_append_drop]
  exact byc_perm L
theorem lay_len (L : List Int) : (lay L).length = L.length := (lay_perm L).length_eq
theorem lay_at (L : List Int) (i : Nat) : (2 * i < L.length → (lay L)[2 * i]? = (byc L)[i]?) ∧ (2 * i + 1 < L.length → (lay L)[2 * i + 1]? = (byc L)[(L.length + 1) / 2 + i]?) := by
  have hb := byc_len L
  obtain ⟨h1, h2⟩ := il_at ((byc L).take ((L.length + 1) / 2)) ((byc L).drop ((L.length + 1) / 2)) (by rw [List.length_take, List.length_drop]; omega) (by rw [List.length_take, List.length_drop]; omega) i
  constructor
  · intro h
    unfold lay
    rw [h1, List.getElem?_take_of_lt (by omega)]
  · intro h
    unfold lay
    rw [h2, List.getElem?_drop]
/-- the two slices set -/
theorem puts_lay (L : List Int) : puts (stp 1 L.length) ((byc L).drop ((L.length + 1) / 2)) (puts (stp 0 L.length) ((byc L).take ((L.length + 1) / 2)) (byc L)) = lay L := by
  have hb := byc_len L
  refine List.ext_getElem? fun j => ?_
  have mem : ∀ a, j ∈ stp a L.length ↔ ∃ k, k < (L.length + 1 - a) / 2 ∧ j = a + 2 * k := fun a => by
    unfold stp
    rw [List.mem_map]
    constructor
    · rintro ⟨k, hk, e⟩
      exact ⟨k, List.mem_range.mp hk, e.symm⟩
    · rintro ⟨k, hk, e⟩
      exact ⟨k, List.mem_range.mpr hk, e.symm⟩
  have sat : ∀ a k, k < (L.length + 1 - a) / 2 → ∃ h : k < (stp a L.length).length, (stp a L.length)[k] = a + 2 * k := fun a k hk => by
    refine ⟨by unfold stp; rw [List.length_map, List.length_range]; exact hk, ?_⟩
    unfold stp
    rw [List.getElem_map, List.getElem_range]
  have nd : ∀ a, (stp a L.length).Nodup := fun a => by
    unfold stp
    exact List.nodup_iff_pairwise_ne.mpr (List.Pairwise.map _ (fun x y h => by omega) (List.nodup_iff_pairwise_ne.mp List.nodup_range))
  have bd : ∀ a, a ≤ 1 → ∀ p ∈ stp a L.length, p < L.length := fun a ha p hp => by
    unfold stp at hp
    obtain ⟨k, hk, e⟩ := List.mem_map.mp hp
    have := List.mem_range.mp hk
    omega
  have ln : ∀ a, (stp a L.length).length = (L.length + 1 - a) / 2 := fun a => by
    unfold stp
    rw [List.length_map, List.length_range]
  by_cases hj : j < L.length
  · by_cases ho : j % 2 = 1
    · obtain ⟨k, rfl⟩ : ∃ k, j = 1 + 2 * k := ⟨j / 2, by omega⟩
      obtain ⟨h1, h2⟩ := sat 1 k (by omega)
      have := puts_at (stp 1 L.length) ((byc L).drop ((L.length + 1) / 2)) (puts (stp 0 L.length) ((byc L).take ((L.length + 1) / 2)) (byc L)) k (nd 1) (by rw [ln, List.length_drop, hb]; omega) (fun p hp => by rw [puts_len, hb]; exact bd 1 (by omega) p hp) h1
      rw [h2] at this
      rw [this, List.getElem?_drop, Nat.add_comm 1, (lay_at L k).2 (by omega)]
    · obtain ⟨k, rfl⟩ : ∃ k, j = 0 + 2 * k := ⟨j / 2, by omega⟩
      rw [puts_off _ _ _ (fun z => by obtain ⟨k', _, e⟩ := (mem 1).mp z; omega)]
      obtain ⟨h1, h2⟩ := sat 0 k (by omega)
      have := puts_at (stp 0 L.length) ((byc L).take ((L.length + 1) / 2)) (byc L) k (nd 0) (by rw [ln, List.length_take, hb]; omega) (fun p hp => by rw [hb]; exact bd 0 (by omega) p hp) h1
      rw [h2] at this
      rw [this, List.getElem?_take_of_lt (by omega), Nat.zero_add, (lay_at L k).1 (by omega)]
  · rw [List.getElem?_eq_none (by rw [puts_len, puts_len, hb]; omega), List.getElem?_eq_none (by rw [lay_len]; omega)]
/-- neighbours are unlike -/
def Adj (F : List Int) : Prop := ∀ i, i + 1 < F.length → F[i]? ≠ F[i + 1]?
theorem byc_ne {L : List Int} {i j : Nat} (hj : j < L.length) (hd : (i : Int) + mostI L ≤ j) : (byc L)[i]? ≠ (byc L)[j]? := by
  have hb := byc_len L
  have h0 := most_nn L
  intro e
  rw [List.getElem?_eq_getElem (show i < (byc L).length by omega), List.getElem?_eq_getElem (show j < (byc L).length by omega)] at e
  have e2 := Option.some.inj e
  have h1 := byc_near (L := L) (i := i) (j := j) (by omega) (by omega) e2
  have h2 := cnt_le_most L ((byc L)[j]'(by omega))
  omega
theorem lay_adj {L : List Int} (h : 2 * mostI L ≤ L.length + 1) : Adj (lay L) := by
  have hb := byc_len L
  intro j hj
  rw [lay_len] at hj
  by_cases ho : j % 2 = 0
  · obtain ⟨k, rfl⟩ : ∃ k, j = 2 * k := ⟨j / 2, by omega⟩
    rw [(lay_at L k).1 (by omega), (lay_at L k).2 (by omega)]
    exact byc_ne (by omega) (by omega)
  · obtain ⟨k, rfl⟩ : ∃ k, j = 2 * k + 1 := ⟨j / 2, by omega⟩
    rw [show 2 * k + 1 + 1 = 2 * (k + 1) by omega, (lay_at L k).2 (by omega), (lay_at L (k + 1)).1 (by omega)]
    intro e
    rw [List.getElem?_eq_getElem (show (L.length + 1) / 2 + k < (byc L).length by omega), List.getElem?_eq_getElem (show k + 1 < (byc L).length by omega)] at e
    have e2 := (Option.some.inj e).symm
    have h1 := byc_near (L := L) (i := k + 1) (j := (L.length + 1) / 2 + k) (by omega) (by omega) e2
    -- so many of that kind as half: it stands first
    obtain ⟨A, C, eb, hA, hC⟩ := byc_run L ((byc L)[(L.length + 1) / 2 + k]'(by omega))
    generalize hx : (byc L)[(L.length + 1) / 2 + k]'(by omega) = x at *
    have hm := cnt_le_most L x
    have hne : L ≠ [] := fun z => by rw [z] at hj; simp at hj
    obtain ⟨k0, C0, eb0, hC0, hk0, hk0L⟩ := byc_head hne
    have g1 : (byc L)[k + 1]? = some x := by rw [List.getElem?_eq_getElem (by omega), e2]
    have g2 : (byc L)[(L.length + 1) / 2 + k]? = some x := by rw [List.getElem?_eq_getElem (by omega), hx]
    have h2 : A.length ≤ k + 1 := by
      refine Nat.le_of_not_lt fun z => hA ?_
      rw [eb, List.append_assoc, List.getElem?_append_left z] at g1
      exact List.mem_of_getElem? g1
    have h3 : (L.length + 1) / 2 + k < A.length + L.count x := by
      refine Nat.lt_of_not_le fun z => hC ?_
      rw [eb, List.getElem?_append_right (by rw [List.length_append, List.length_replicate]; exact z)] at g2
      exact List.mem_of_getElem? g2
    by_cases ex : x = k0
    · subst ex
      have : A.length = 0 := by
        cases A with
        | nil => rfl
        | cons a r =>
          exfalso
          have := congrArg List.head? (eb.symm.trans eb0)
          obtain ⟨m, em⟩ : ∃ m, L.count x = m + 1 := ⟨L.count x - 1, by have := List.one_le_count_iff.mpr hk0L; omega⟩
          rw [em] at this
          have ea : a = x := Option.some.inj this
          exact hA (by rw [ea]; exact List.mem_cons_self)
      omega
    · have h4 : L.count k0 ≤ k + 1 := by
        refine Nat.le_of_not_lt fun z => ex ?_
        rw [eb0, List.getElem?_append_left (by rw [List.length_replicate]; exact z)] at g1
        exact (List.mem_replicate.mp (List.mem_of_getElem? g1)).2
      omega
/-- .. and the last and the first, if no kind has more than half -/
theorem lay_ring {L : List Int} (h : 2 * mostI L ≤ L.length) (h2 : 2 ≤ L.length) : (lay L)[L.length - 1]? ≠ (lay L)[0]? := by
  have hb := byc_len L
  have e0 := (lay_at L 0).1 (by omega)
  rw [Nat.mul_zero] at e0
  rw [e0]
  by_cases ho : L.length % 2 = 0
  · obtain ⟨k, hk⟩ : ∃ k, L.length - 1 = 2 * k + 1 := ⟨(L.length - 1) / 2, by omega⟩
    rw [hk, (lay_at L k).2 (by omega)]
    exact Ne.symm (byc_ne (by omega) (by omega))
  · obtain ⟨k, hk⟩ : ∃ k, L.length - 1 = 2 * k := ⟨(L.length - 1) / 2, by omega⟩
    rw [hk, (lay_at L k).1 (by omega)]
    exact Ne.symm (byc_ne (by omega) (by omega))
/-- the row F shows the heap M -/
def adjB (F : List Int) : Bool := (List.range (F.length - 1)).all fun k => decide (F.getD k 0 ≠ F.getD (k + 1) 0)
def rowP (F M : List Int) : Bool := decide (srt F = srt M) && adjB F
theorem getD_get? {L : List Int} {i : Nat} (h : i < L.length) : L[i]? = some (L.getD i 0) := by
  rw [List.getD_eq_getElem?_getD, List.getElem?_eq_getElem h]
  rfl
theorem adjB_iff (F : List Int) : adjB F = true ↔ Adj F := by
  unfold adjB
  rw [List.all_eq_true]
  constructor
  · intro h i hi e
    have h1 := of_decide_eq_true (h i (List.mem_range.mpr (by omega)))
    rw [getD_get? (by omega), getD_get? hi] at e
    exact h1 (Option.some.inj e)
  · intro h i hi
    have hi := List.mem_range.mp hi
    refine decide_eq_true fun e => h i (by omega) ?_
    rw [getD_get? (by omega), getD_get? (by omega), e]
theorem rowP_lay {L : List Int} (h : 2 * mostI L ≤ L.length + 1) : rowP (lay L) L = true := by
  unfold rowP
  rw [decide_eq_true (srt_eq_iff.mpr (lay_perm L)), (adjB_iff _).mpr (lay_adj h)]
  rfl
theorem rowP_len {F M : List Int} (h : F.length ≠ M.length) : rowP F M = false := by
  unfold rowP
  rw [decide_eq_false fun z => h (srt_eq_iff.mp z).length_eq, Bool.false_and]
/-- the ring F shows the heap M -/
def ringP (F M : List Int) : Bool := decide (2 ≤ F.length) && (decide (srt F = srt M) && (List.range F.length).all fun k => decide (F.getD k 0 ≠ F.getD (if k = 0 then F.length - 1 else k - 1) 0))
theorem ringP_lay {L : List Int} (h : 2 * mostI L ≤ L.length) (h2 : 2 ≤ L.length) : ringP (lay L) L = true := by
  unfold ringP
  rw [decide_eq_true (srt_eq_iff.mpr (lay_perm L)), lay_len, decide_eq_true h2, Bool.true_and, Bool.true_and, List.all_eq_true]
  intro k hk
  have hk := List.mem_range.mp hk
  refine decide_eq_true fun e => ?_
  by_cases e0 : k = 0
  · subst e0
    rw [if_pos rfl] at e
    refine lay_ring h h2 ?_
    rw [getD_get? (by rw [lay_len]; omega), getD_get? (by rw [lay_len]; omega), e]
  · rw [if_neg e0] at e
    refine lay_adj (L := L) (by omega) (k - 1) (by rw [lay_len]; omega) ?_
    rw [show k - 1 + 1 = k by omega, getD_get? (by rw [lay_len]; omega), getD_get? (by rw [lay_len]; omega), e]
/-! ### a call that may raise in a try; isinstance of what is caught; one of two readings -/
section
variable {X : Cx} {e : Expr} {t1 t2 : TE}
theorem pe_alt (h1 : PE X e t1) (h2 : PE X e t2) : PE X e (fun σ H Q => t1 σ H Q ∨ t2 σ H Q) := by
  refine ⟨fun pins s σ H Q I h => ?_⟩
  rcases h with h | h
  · exact h1.run pins s σ H Q I h
  · exact h2.run pins s σ H Q I h
end
section
variable {X : Cx} {CX : CXT} {k : Nat} {x : Str} {ps : List Str} {sp : Sp} {E : L2.St → XK} {p pos : Pos} {e : Expr} {es : List Expr} {t : TA}
theorem pe_fnS (D : DefOk X.prog X.w X.K X.mg X.base CX k x ps sp) (hr : Room k X.A) (hg : Gl X x) (hx : ∀ σ, PassesAt CX X σ (E σ)) (ha : PA X (e :: es) t) (hdb : (x == ("__debug__" : Str)) = false := by decide)
    (he : starEach (e :: es) X.env = (false, eval e X.env) :: starEach es X.env := by rfl) (hpl : (backTo pos (starEach es X.env)).any (·.1) = false := by rfl) : PE X (.Call (.Name x p) (e :: es) [] pos) (tCallS sp E t) := by
  obtain ⟨fd, F, b, kp, hm⟩ := D
  exact pe_callS F hr hg hm kp b hx ha hdb he hpl
end
/-- isinstance(e, c), e what the suite holds -/
def rIsX (K : PySem.W.Frag) (cls : Value) (d : Option Addr) (a : Addr) : List V → Hp → VK → Prop := fun xs H Q => ∃ (D : Addr) (c : V) (cv : Value) (b : Bool), cls = .ref D ∧ d = none ∧ L2.ExcC K D ∧ xs = [.ref a, c] ∧ ClsV c cv ∧ PySem.W.kitOne K (.ref D) cv = some b ∧ Q (.bl b) H
theorem zisE {X : Cx} (K : PySem.W.Frag) {a : Addr} {oe : Obj} {cls : Value} {d : Option Addr} {pn : List (Addr × Obj)} (hz : Zc cls d oe) (hf : ∃ vs, oe.data = .fields vs) (h : X.K = K := by rfl) : CallR (X.suite a ((a, oe) :: pn)) (.builtin "isinstance") (rIsX K cls d a) := by
  subst h
  intro pins s σ H xs us Q I r hq
  obtain ⟨D, c, cv, b, rfl, rfl, C, rfl, hc, e, q⟩ := hq
  exact call_isE C hz hf pins s σ H _ us Q I r ⟨c, cv, b, rfl, fun u ru => hc.eq ru, e, q⟩
def excB (K : PySem.W.Frag) (x : Str) : Bool := decide (PySem.W.findIn K (.ref (He.ga K x)) "__getattribute__" = some (some (.builtin "BaseException.__getattribute__"))) && decide (PySem.W.findIn K (.ref (He.ga K x)) "__getattr__" = some none) &&
  decide (PySem.W.subIn K (.ref (He.ga K x)) (.type "BaseException") = some true) && PySem.W.hasDictIn K (He.ga K x) && decide (PySem.W.findIn K (.ref (He.ga K x)) "__class__" = some (some (.builtin "object.__class__"))) &&
  decide (PySem.W.specialIn K (.builtin "object.__class__") "__get__" = some (some (.builtin "getset_descriptor.__get__"))) && decide (PySem.W.takesIn K (.builtin "object.__class__") = some true) && decide (PySem.W.mroIn K (He.ga K x) (.type "object") = some true)
theorem excB_ok {K : PySem.W.Frag} {x : Str} (h : excB K x = true) : L2.ExcC K (He.ga K x) := by
  unfold excB at h
  simp only [Bool.and_eq_true] at h
  obtain ⟨⟨⟨⟨⟨⟨⟨h1, h2⟩, h3⟩, h4⟩, h5⟩, h6⟩, h7⟩, h8⟩ := h
  exact ⟨of_decide_eq_true h1, of_decide_eq_true h2, of_decide_eq_true h3, h4, of_decide_eq_true h5, of_decide_eq_true h6, of_decide_eq_true h7, of_decide_eq_true h8⟩
def exmB (K : PySem.W.Frag) (x y : Str) (b : Bool) : Bool := decide (PySem.W.exmOne K (.ref (He.ga K x)) (.ref (He.ga K y)) = some b)
/-! ### a bound of the commonest kinds is one of all -/
theorem cmn_mem {L : List Int} (h : L ≠ []) : ∃ k ∈ cmn L, (L.count k : Int) = mostI L := by
  obtain ⟨k, hk, e⟩ := most_mem h
  refine ⟨k, ?_, e⟩
  unfold cmn
  refine List.mem_map.mpr ⟨(k, (L.count k : Int)), List.mem_filter.mpr ⟨mem_cn_of hk, ?_⟩, rfl⟩
  exact decide_eq_true e
theorem cmn_le {L : List Int} (h : ∀ k ∈ cmn L, 2 * (L.count k : Int) ≤ L.length + 1) : 2 * mostI L ≤ L.length + 1 := by
  by_cases e : L = []
  · subst e
    rw [most_nil]
    decide
  · obtain ⟨k, hk, e2⟩ := cmn_mem e
    rw [← e2]
    exact h k hk
theorem cmn_le2 {L : List Int} (h : ∀ k ∈ cmn L, 2 * (L.count k : Int) ≤ L.length) : 2 * mostI L ≤ L.length := by
  by_cases e : L = []
  · subst e
    rw [most_nil]
    decide
  · obtain ⟨k, hk, e2⟩ := cmn_mem e
    rw [← e2]
    exact h k hk
/-! ### any(xs) in an except suite -/
section
open HotX
variable {prog : Program} {w : World} {A : Around} {E : Value → Shared → Prop} {s : Shared}
theorem pyNext_list_end_hot {it l x1 : Addr} {i : Nat} {items : Array Value} {Q : Option Value → Shared → Prop} (hot : HotAt A x1 s.heap) (hne1 : x1 ≠ it)
    (hit : s.heap.IsListIter it l i) (hl : s.heap.IsList l items) (hx : items[i]? = none)
    (hQ : ∀ h', Heap.ExtBut it s.heap h' → Q none { s with heap := h' }) : wpAny (model prog w) A (pyNext (.ref it)) Q E s := by
  obtain ⟨o, ho, hc, hd⟩ := id hit
  obtain ⟨ol, hol, _, nl, hdl⟩ := hl
  obtain ⟨hh, o1, vs1, h1, d1, c1⟩ := hot
  unfold pyNext
  refine wpAny_bind (wpAny_attempt (wpAny_callSpecial?_slot (name := Str.ofString "__next__") hit.typeIs slot_listiter_next
    (wpAny_call_entry slot_listiter_next hit.typeIs entry_listiter_next ?_ (args_listiter_next _))))
  show wpAny _ _ (field (.ref it) 0 >>= _) _ _ s
  refine wpAny_bind (wpAny_field ho hd (x := .ref l) rfl ?_)
  show wpAny _ _ (if (Value.ref l == Value.none) = true then _ else _) _ _ s
  rw [if_neg (show ¬ ((Value.ref l == Value.none) = true) from Bool.false_ne_true)]
  show wpAny _ _ (field (.ref it) 1 >>= _) _ _ s
  refine wpAny_bind (wpAny_field ho hd (x := .int i 0) rfl ?_)
  show wpAny _ _ (seqItems? (.ref l) >>= _) _ _ s
  refine wpAny_bind (wpAny_seqItems hol hdl ?_)
  simp only [Int.toNat_natCast, hx]
  refine wpAny_bind (wpAny_rule (wpAny_bind (wpAny_setField ho hd (by simp) ?_)))
  have hx1 := (Heap.get?_update_other s.heap (Obj.mapFields (·.setIfInBounds 0 Value.none)) (Ne.symm hne1)).trans h1
  show wpAny _ _ (newExc (.type "StopIteration") [] >>= _) _ _ _
  refine wpAny_bind ?_
  simp only [newExc, newTuple]
  refine wpAny_bind (wpAny_newObj_type ?_ (by size_fits))
  refine wpAny_bind (m := firstArgMember _ _) (wpAny_of_eq (a := Value.none) (by first | rfl | (simp only [firstArgMember]; rfl)) ?_)
  refine wpAny_newObj_type ?_ (by size_fits)
  refine raiseNew_hot ⟨hh, o1, vs1, Heap.get?_push_of_some _ (Heap.get?_push_of_some _ hx1), d1, c1⟩ (Nat.ne_of_lt (Heap.lt_size (Heap.get?_push_of_some _ hx1))) (Heap.get?_push_size _ rfl) rfl (by first | (simp; done) | (simp; omega) | (simp only [Array.size_append]; simp; omega)) ?_
  refine wpAny_bind (wpAny_isInstance (T := "StopIteration") (b := true) ⟨_, Heap.get?_update_self _ (Heap.get?_push_size _ rfl) rfl, rfl⟩ isSubtype_stop ?_)
  refine wpAny_pure (hQ _ fun b ob hb e => ?_)
  have e2 := (Heap.get?_update_other s.heap (Obj.mapFields (·.setIfInBounds 0 Value.none)) (Ne.symm hb)).trans e
  rw [Heap.get?_update_other _ _ (Nat.ne_of_gt (Heap.lt_size (Heap.get?_push_of_some _ e2)))]
  exact Heap.get?_push_of_some _ (Heap.get?_push_of_some _ e2)
def WarmAt (x1 : Addr) (h : Heap) : Prop := ∃ (o : Obj) (vs : Array Value), h.get? x1 = some o ∧ o.data = .fields vs ∧ vs[2]? = some .none
theorem walks_listH {x1 : Addr} (hh : A.handled = some (.ref x1)) (I ax : Addr) (hne : ax ≠ I) (hx : x1 ≠ I) (items : Array Value) :
    Walks prog w A I [I, ax, x1] [I] items.size (fun i v => items[i]? = some v) (fun i h => (h.IsListIter I ax i ∧ h.IsList ax items) ∧ WarmAt x1 h) where
  sub := fun b hb => by simp at hb; simp [hb]
  frame := fun _ _ _ st hk => ⟨⟨st.1.1.at fun o e => hk I (by simp) o e, st.1.2.at fun o e => hk ax (by simp) o e⟩, by
    obtain ⟨o, vs, h1, h2, h3⟩ := st.2
    exact ⟨o, vs, hk x1 (by simp) o h1, h2, h3⟩⟩
  item := fun i s Q E hi st hQ => by
    refine wpAny_pyNext_list_item st.1.1 st.1.2 (x := items[i]) (by simp [hi]) fun h' hit' hs' => ?_
    refine hQ _ h' s.toks (by simp [hi]) ⟨⟨hit', st.1.2.extBut hs'.extBut hne⟩, ?_⟩ fun b o hb e => hs'.extBut b o (fun h => hb (by simp [h])) e
    obtain ⟨o, vs, h1, h2, h3⟩ := st.2
    exact ⟨o, vs, hs'.extBut _ _ hx h1, h2, h3⟩
  done := fun s Q E st hQ => pyNext_list_end_hot ⟨hh, st.2⟩ hx st.1.1 st.1.2 (by simp) fun h' he' => hQ h' s.toks fun b o hb e => he' b o (fun h => hb (by simp [h])) e
  self := fun _ _ _ _ st hQ => wpAny_pyIter_listiter st.1.1 hQ
end
theorem hotS {X : Cx} {a : Addr} {oe : Obj} {cls : Value} {d : Option Addr} {pn : List (Addr × Obj)} (hz : L2N.Zn cls d oe) (hf : ∃ vs, oe.data = .fields vs) : L2H.HotC (X.suite a ((a, oe) :: pn)) := by
  obtain ⟨vs, hd⟩ := hf
  exact ⟨(a, oe), ⟨rfl, vs, hd, hz.2.2 vs hd⟩, List.mem_cons_self⟩
theorem cr_anyH {X : Cx} (hc : L2H.HotC X) : CallR X (.builtin "any") (rAny X.K) := by
  intro pins s σ H vs us Q I r h
  obtain ⟨a, bs, rfl, hs, q⟩ := h
  obtain ⟨its, rv, hl, _⟩ := I.list hs
  rw [Vals.ref1 r]
  have hb := rv.bls
  obtain ⟨x1, hh, o1, vs1, g1, g2, g3⟩ := hc.at I
  have hx1 : x1 ≠ s.heap.objs.size := Nat.ne_of_lt (Heap.lt_size g1)
  refine PySem.call_any_walk (iter_any hl.isList fun s₂ e2 st hne => ?_)
  subst e2
  refine ⟨_, _, _, _, _, _, _, rfl, walks_listH (A := X.A.in1) (x1 := x1) hh _ a hne hx1 its.toArray, ⟨st, o1, vs1, Heap.get?_push_of_some _ g1, g2, g3⟩, truth_bools hb, fun h' tk hk => ?_⟩
  refine ⟨.bl _, H, I.kept fun b o eo => hk b o (fun hmem => ?_) (Heap.get?_push_of_some _ eo), ?_, q⟩
  · rcases List.mem_cons.mp hmem with e1 | hmem
    · exact absurd (e1 ▸ Heap.lt_size eo) (Nat.lt_irrefl _)
    · cases hmem
  · show Value.bool _ = Value.bool _
    rw [← L2.any_range, hb, List.size_toArray, List.length_map]
theorem zanyH {X : Cx} (K : PySem.W.Frag) (hc : L2H.HotC X) (h : X.K = K := by rfl) : CallR X (.builtin "any") (rAny K) := by subst h; exact cr_anyH hc
theorem takes0N {X : Cx} : L2N.Takes X (fun _ _ _ _ => False) := fun _ _ x => by
  obtain ⟨_, _, _, _, _, _, _, _, _, _, _, _, _, _, _, _, z⟩ := x
  exact z.elim
/-! ### the least row -/
theorem unlock_same {H H' : Hp} {d : Addr} {u f : HO} (h : H d = some u) (s : Same (upd H d f) H') : Same H (upd H' d u) := fun b o e => by
  by_cases z : b = d
  · subst z
    rw [upd_same, ← h, e]
  · rw [upd_ne z]
    exact s b o (by rw [upd_ne z]; exact e)
def vv (t : Tab) (k : Int) : Int := (lk t k).getD 0
def lastL (F : List Int) : List Int := F.drop (F.length - 1)
def canF (t : Tab) (M : List Int) (n k : Int) : Bool := !decide (2 * (vv t k - 1) > n - 1) && (M.filter fun o => decide (o ≠ k)).all fun o => decide (2 * vv t o ≤ n - 1 + 1)
def nextP (t : Tab) (M : List Int) (n : Int) (F : List Int) (k : Int) : Bool := decide (lastL F ≠ [k]) && canF t M n k
def nextK (t : Tab) (M : List Int) (n : Int) (F : List Int) : Int := ((t.map (·.1)).find? (nextP t M n F)).getD (-1)
def mostT (t : Tab) (n : Int) : List Int := (t.filter fun p => decide (2 * p.2 ≥ n)).map (·.1)
def rmT (t : Tab) (k : Int) : Tab := t.filter fun p => decide (p.1 ≠ k)
def decT (t : Tab) (k : Int) : Tab := if vv t k - 1 = 0 then rmT t k else pu t k (vv t k - 1)
theorem dk_drop (t : Tab) (k : Int) : dropK (dk t) (Sum.inl k) = dk (rmT t k) := by
  unfold dropK dk rmT
  rw [List.filter_map]
  congr 1
  refine List.filter_congr fun p _ => ?_
  show decide ((Sum.inl p.1 : Key) ≠ Sum.inl k) = decide (p.1 ≠ k)
  by_cases e : p.1 = k
  · simp [e]
  · have : ¬ (Sum.inl p.1 : Key) = Sum.inl k := fun z => e (key_inl.mp z)
    simp [e, this]
theorem rm_lk (t : Tab) (k j : Int) : lk (rmT t k) j = if j = k then none else lk t j := by
  induction t with
  | nil => simp [rmT, lk]
  | cons p r ih =>
    unfold rmT at ih ⊢
    by_cases e : p.1 = k
    · rw [List.filter_cons_of_neg (by simp [e]), ih]
      by_cases e2 : j = k
      · simp [e2]
      · have : ¬ p.1 = j := fun z => e2 (by rw [← z, e])
        simp [lk, e2, this]
    · rw [List.filter_cons_of_pos (by simp [e])]
      show (if p.1 = j then _ else _) = _
      rw [ih]
      by_cases e2 : p.1 = j
      · have : ¬ j = k := fun z => e (by rw [e2, z])
        simp [lk, e2, this]
      · simp [lk, e2]
theorem rm_rise {t : Tab} {k : Int} (h : (t.map (·.1)).Pairwise (· < ·)) : ((rmT t k).map (·.1)).Pairwise (· < ·) :=
  h.sublist ((List.filter_sublist (p := fun p : Int × Int => decide (p.1 ≠ k)) (l := t)).map (·.1))
theorem pu_keys_in {t : Tab} {k v : Int} (h : (lk t k).isSome = true) : (pu t k v).map (·.1) = t.map (·.1) := by rw [pu_keys, if_pos h]
theorem count_two {R : List Int} {a b : Int} (h : a ≠ b) : R.count a + R.count b ≤ R.length := by
  induction R with
  | nil => simp
  | cons z r ih =>
    rw [List.count_cons, List.count_cons, List.length_cons]
    by_cases e : z = a
    · have : ¬ z = b := fun y => h (by rw [← e, y])
      simp [e]
      have : ¬ a = b := h
      simp [this]
      omega
    · simp [e]
      split <;> omega
theorem last_iff {F : List Int} {k : Int} : lastL F = [k] ↔ F.getLast? = some k := by
  unfold lastL
  rcases List.eq_nil_or_concat F with rfl | ⟨G, z, rfl⟩
  · simp
  · rw [List.concat_eq_append, List.length_append, show G.length + [z].length - 1 = G.length by simp, List.drop_left' rfl, List.getLast?_append]
    simp
def LeastP (L F : List Int) : Prop := ∀ j (h : j < F.length), ∀ o, o < F[j] → (F.take j).getLast? ≠ some o → (F.take j).count o < L.count o →
  ∃ k, if k = o then 2 * ((L.count k : Int) - (F.take j).count k - 1) > (L.length : Int) - j - 1 else 2 * ((L.count k : Int) - (F.take j).count k) > (L.length : Int) - j
structure LP (L F R : List Int) (t : Tab) : Prop where
  pm : (F ++ R).Perm L
  rise : (t.map (·.1)).Pairwise (· < ·)
  val : ∀ k, lk t k = if R.count k = 0 then none else some (R.count k : Int)
  adj : Adj F
  ok : ∀ k, 2 * (R.count k : Int) ≤ R.length + 1 - (if F.getLast? = some k then 1 else 0)
  least : LeastP L F
section
variable {L F R : List Int} {t : Tab}
theorem LP.nodup (h : LP L F R t) : (t.map (·.1)).Nodup := List.nodup_iff_pairwise_ne.mpr (h.rise.imp fun h => by omega)
theorem LP.vv (h : LP L F R t) (k : Int) : Ap.vv t k = R.count k := by
  unfold Ap.vv
  rw [h.val]
  by_cases e : R.count k = 0
  · rw [if_pos e, e]; rfl
  · rw [if_neg e]; rfl
theorem LP.mem (h : LP L F R t) {k : Int} : k ∈ t.map (·.1) ↔ k ∈ R := by
  rw [keys_lk, h.val]
  by_cases e : R.count k = 0
  · simp [e, List.count_eq_zero.mp e]
  · simp [e]
    exact List.one_le_count_iff.mp (by omega)
theorem LP.most_mem (h : LP L F R t) {n k : Int} : k ∈ mostT t n ↔ k ∈ R ∧ n ≤ 2 * (R.count k : Int) := by
  unfold mostT
  rw [List.mem_map]
  constructor
  · rintro ⟨p, hp, rfl⟩
    obtain ⟨h1, h2⟩ := List.mem_filter.mp hp
    have h3 := lk_of_mem h.nodup h1
    rw [h.val] at h3
    by_cases e : R.count p.1 = 0
    · rw [if_pos e] at h3; cases h3
    · rw [if_neg e] at h3
      have := Option.some.inj h3
      have h2 := of_decide_eq_true h2
      exact ⟨h.mem.mp (List.mem_map_of_mem h1), by omega⟩
  · rintro ⟨h1, h2⟩
    have h3 := List.one_le_count_iff.mpr h1
    have h4 : lk t k = some (R.count k : Int) := by rw [h.val, if_neg (by omega)]
    exact ⟨(k, R.count k), List.mem_filter.mpr ⟨mem_of_lk h4, decide_eq_true h2⟩, rfl⟩
theorem LP.can (h : LP L F R t) (k : Int) : canF t (mostT t R.length) R.length k = true ↔ 2 * ((R.count k : Int) - 1) ≤ R.length - 1 ∧ ∀ o, o ≠ k → 2 * (R.count o : Int) ≤ R.length := by
  unfold canF
  rw [Bool.and_eq_true, List.all_eq_true]
  constructor
  · rintro ⟨h1, h2⟩
    have h1' : ¬ 2 * (Ap.vv t k - 1) > (R.length : Int) - 1 := by simpa using h1
    rw [h.vv] at h1'
    refine ⟨by omega, fun o ho => ?_⟩
    by_cases e : (R.length : Int) ≤ 2 * (R.count o : Int)
    · by_cases m : o ∈ R
      · have h3 := of_decide_eq_true (h2 o (List.mem_filter.mpr ⟨h.most_mem.mpr ⟨m, e⟩, decide_eq_true ho⟩))
        rw [h.vv] at h3
        omega
      · have := List.count_eq_zero.mpr m
        omega
    · omega
  · rintro ⟨h1, h2⟩
    refine ⟨?_, fun o ho => decide_eq_true ?_⟩
    · rw [h.vv]
      simp
      omega
    · rw [h.vv]
      have := h2 o (of_decide_eq_true (List.mem_filter.mp ho).2)
      omega
theorem LP.some (h : LP L F R t) (hR : R ≠ []) : ∃ k ∈ R, nextP t (mostT t R.length) R.length F k = true := by
  have hpos : 0 < R.length := List.length_pos_iff.mpr hR
  have cf : ∀ k, F.getLast? ≠ .some k → (R.filter fun z => decide (F.getLast? ≠ .some z)).count k = R.count k := fun k hk => List.count_filter (decide_eq_true hk)
  have hne : (R.filter fun z => decide (F.getLast? ≠ .some z)) ≠ [] := by
    intro z
    have all := List.filter_eq_nil_iff.mp z
    obtain ⟨a, ha⟩ := List.exists_mem_of_ne_nil R hR
    have ea : F.getLast? = .some a := by
      have := all a ha
      simpa using this
    have e2 : R.count a = R.length := List.count_eq_length.mpr fun b hb => by
      have := all b hb
      have eb : F.getLast? = .some b := by simpa using this
      rw [ea] at eb
      exact Option.some.inj eb
    have := h.ok a
    rw [if_pos ea, e2] at this
    omega
  obtain ⟨k, hk, e⟩ := Ap.most_mem hne
  obtain ⟨h1, h2⟩ := List.mem_filter.mp hk
  have h2 : F.getLast? ≠ .some k := of_decide_eq_true h2
  refine ⟨k, h1, ?_⟩
  unfold nextP
  rw [Bool.and_eq_true, h.can]
  refine ⟨decide_eq_true fun z => h2 (last_iff.mp z), ?_, fun o ho => ?_⟩
  · have := h.ok k
    rw [if_neg h2] at this
    omega
  · by_cases el : F.getLast? = .some o
    · have := h.ok o
      rw [if_pos el] at this
      omega
    · have h3 := cnt_le_most (R.filter fun z => decide (F.getLast? ≠ .some z)) o
      rw [← e, cf o el, cf k h2] at h3
      have := count_two (R := R) ho
      omega
theorem LP.next (h : LP L F R t) (hR : R ≠ []) : ∃ k, nextK t (mostT t R.length) R.length F = k ∧ k ∈ R ∧ nextP t (mostT t R.length) R.length F k = true ∧ ∀ o ∈ R, o < k → nextP t (mostT t R.length) R.length F o = false := by
  obtain ⟨k0, hk0, p0⟩ := h.some hR
  unfold nextK
  cases e : (t.map (·.1)).find? (nextP t (mostT t R.length) R.length F) with
  | none =>
    have := List.find?_eq_none.mp e k0 (h.mem.mpr hk0)
    exact absurd p0 this
  | some k =>
    obtain ⟨hp, as, bs, e2, ha⟩ := List.find?_eq_some_iff_append.mp e
    refine ⟨k, rfl, h.mem.mp (List.mem_of_find?_eq_some e), hp, fun o ho hlt => ?_⟩
    have ho' := h.mem.mpr ho
    rw [e2] at ho'
    rcases List.mem_append.mp ho' with m | m
    · simpa using ha o m
    · have hr := h.rise
      rw [e2] at hr
      have hr2 := (List.pairwise_append.mp hr).2.1
      rcases List.mem_cons.mp m with z | z
      · omega
      · have := (List.pairwise_cons.mp hr2).1 o z
        omega
theorem LP.cnt (h : LP L F R t) (k : Int) : L.count k = F.count k + R.count k := by rw [← h.pm.count_eq, List.count_append]
theorem LP.len (h : LP L F R t) : L.length = F.length + R.length := by rw [← h.pm.length_eq, List.length_append]
theorem LP.step (h : LP L F R t) {k : Int} (hk : k ∈ R) (hp : nextP t (mostT t R.length) R.length F k = true) (hl : ∀ o ∈ R, o < k → nextP t (mostT t R.length) R.length F o = false) : LP L (F ++ [k]) (R.erase k) (decT t k) := by
  have hc := List.one_le_count_iff.mpr hk
  have hlen := List.length_erase_of_mem hk
  have hpos := List.length_pos_of_mem hk
  have hce : ∀ j, (R.erase k).count j = if j = k then R.count j - 1 else R.count j := fun j => by
    by_cases e : j = k
    · subst e; rw [if_pos rfl, List.count_erase_self]
    · rw [if_neg e, List.count_erase_of_ne e]
  unfold nextP at hp
  rw [Bool.and_eq_true, h.can] at hp
  obtain ⟨hp1, hp2, hp3⟩ := hp
  have hnl : F.getLast? ≠ .some k := fun z => (of_decide_eq_true hp1) (last_iff.mpr z)
  have hlast : (F ++ [k]).getLast? = .some k := by simp
  refine ⟨?_, ?_, ?_, ?_, ?_, ?_⟩
  · rw [List.append_assoc]
    exact (List.Perm.append_left F (List.perm_cons_erase hk).symm).trans h.pm
  · unfold decT
    split
    · exact rm_rise h.rise
    · rw [pu_keys_in (by rw [h.val, if_neg (by omega)]; rfl)]
      exact h.rise
  · intro j
    unfold decT
    rw [h.vv, hce]
    by_cases e1 : (R.count k : Int) - 1 = 0
    · rw [if_pos e1, rm_lk]
      by_cases e2 : j = k
      · subst e2
        rw [if_pos rfl, if_pos rfl, if_pos (by omega)]
      · rw [if_neg e2, if_neg e2, h.val]
    · rw [if_neg e1, lk_pu]
      by_cases e2 : j = k
      · subst e2
        rw [if_pos rfl, if_pos rfl, if_neg (by omega)]
        congr 1
        omega
      · rw [if_neg e2, if_neg e2, h.val]
  · intro i hi
    rw [List.length_append] at hi
    have hi : i + 1 < F.length + 1 := hi
    by_cases e : i + 1 < F.length
    · rw [List.getElem?_append_left (by omega), List.getElem?_append_left e]
      exact h.adj i e
    · rw [List.getElem?_append_left (by omega), List.getElem?_append_right (by omega), show i + 1 - F.length = 0 by omega]
      intro z
      apply hnl
      rw [List.getLast?_eq_getElem?, show F.length - 1 = i by omega, z]
      rfl
  · intro j
    rw [hlast, hce, hlen]
    by_cases e : j = k
    · subst e
      rw [if_pos rfl, if_pos rfl]
      omega
    · have e' : ¬ (Option.some k = Option.some j) := fun z => e (Option.some.inj z).symm
      rw [if_neg e, if_neg e']
      have := hp3 j e
      omega
  · intro j hj o ho hlo hco
    rw [List.length_append] at hj
    have hj : j < F.length + 1 := hj
    by_cases e : j < F.length
    · rw [List.take_append_of_le_length (by omega)] at hlo hco ⊢
      rw [List.getElem_append_left e] at ho
      exact h.least j e o ho hlo hco
    · obtain rfl : j = F.length := by omega
      rw [List.take_left' rfl] at hlo hco ⊢
      rw [List.getElem_append_right (Nat.le_refl _)] at ho
      have ho : o < k := by simpa using ho
      have hcn := h.cnt o
      have hoR : o ∈ R := List.one_le_count_iff.mp (by omega)
      have hf := hl o hoR ho
      have nc : ¬ (2 * ((R.count o : Int) - 1) ≤ R.length - 1 ∧ ∀ x, x ≠ o → 2 * (R.count x : Int) ≤ R.length) := fun z => by
        unfold nextP at hf
        rw [(h.can o).mpr z, decide_eq_true (p := lastL F ≠ [o]) (fun y => hlo (last_iff.mp y))] at hf
        cases hf
      have hLn := h.len
      by_cases e1 : 2 * ((R.count o : Int) - 1) ≤ R.length - 1
      · have : ∃ x, x ≠ o ∧ ¬ 2 * (R.count x : Int) ≤ R.length := Classical.byContradiction fun z => nc ⟨e1, fun x hx => Classical.byContradiction fun y => z ⟨x, hx, y⟩⟩
        obtain ⟨x, hx, hx2⟩ := this
        refine ⟨x, ?_⟩
        rw [if_neg hx]
        have := h.cnt x
        omega
      · refine ⟨o, ?_⟩
        rw [if_pos rfl]
        omega
theorem LP.start (L : List Int) (h : 2 * mostI L ≤ L.length + 1) : LP L [] L (cn L) := by
  refine ⟨.refl _, cn_rise L, cn_lk L, fun i hi => absurd hi (Nat.not_lt_zero _), fun k => ?_, fun j hj => absurd hj (Nat.not_lt_zero _)⟩
  have := cnt_le_most L k
  show 2 * _ ≤ _ + 1 - (if (none : Option Int) = .some k then 1 else 0)
  rw [if_neg (by intro z; cases z)]
  omega
end
theorem rm_pu {t : Tab} {k v : Int} (h : (lk t k).isSome = true) : rmT (pu t k v) k = rmT t k := by
  induction t with
  | nil => cases h
  | cons p r ih =>
    by_cases e : p.1 = k
    · simp [pu, rmT, e]
    · simp only [lk, e, if_false] at h
      have := ih h
      unfold rmT at this ⊢
      simp only [pu, e, if_false]
      rw [List.filter_cons_of_pos (by simp [e]), List.filter_cons_of_pos (by simp [e]), this]
theorem nodup_len {ks R : List Int} (h : ks.Nodup) (m : ∀ z ∈ ks, z ∈ R) : ks.length ≤ R.length := by
  induction ks generalizing R with
  | nil => exact Nat.zero_le _
  | cons k r ih =>
    obtain ⟨h1, h2⟩ := List.nodup_cons.mp h
    have hk := m k List.mem_cons_self
    have := ih (R := R.erase k) h2 fun z hz => (List.mem_erase_of_ne (fun e => h1 (by rw [← e]; exact hz))).mpr (m z (List.mem_cons_of_mem _ hz))
    rw [List.length_erase_of_mem hk] at this
    have := List.length_pos_of_mem hk
    rw [List.length_cons]
    omega
/-! ### .. as the law asks it -/
theorem sum_cnt {R : List Int} : ∀ {ks : List Int}, ks.Nodup → (∀ z ∈ R, z ∈ ks) → (ks.map fun k => (R.count k : Int)).sum = R.length := by
  induction R with
  | nil =>
    intro ks _ _
    have : ∀ ks : List Int, (ks.map fun k => ((([] : List Int).count k : Nat) : Int)).sum = 0 := by
      intro ks
      induction ks with
      | nil => rfl
      | cons k r ih =>
        rw [List.map_cons, List.sum_cons, ih]
        rfl
    exact this ks
  | cons z r ih =>
    intro ks nd m
    have h1 := ih nd fun y hy => m y (List.mem_cons_of_mem _ hy)
    have h2 : ∀ (ks : List Int), ks.Nodup → (ks.map fun k => ((z :: r).count k : Int)).sum = (ks.map fun k => (r.count k : Int)).sum + (if z ∈ ks then 1 else 0) := by
      intro ks nd
      induction ks with
      | nil => rfl
      | cons k t ih2 =>
        obtain ⟨n1, n2⟩ := List.nodup_cons.mp nd
        rw [List.map_cons, List.sum_cons, ih2 n2, List.map_cons, List.sum_cons, List.count_cons]
        by_cases e : z = k
        · subst e
          simp [n1]
          omega
        · have e' : ¬ k = z := fun y => e y.symm
          simp [e]
          omega
    rw [h2 ks nd, h1, if_pos (m z List.mem_cons_self), List.length_cons]
    omega
def lcf (T : Tab) (n k : Int) : Bool := T.all fun p => decide (2 * p.2 ≤ n + 1 - (if p.1 = k then 1 else 0))
theorem pu_back {T : Tab} {o u v : Int} (h : lk T o = some v) : pu (pu T o u) o v = T := by
  induction T with
  | nil => cases h
  | cons p r ih =>
    by_cases e : p.1 = o
    · simp only [lk, e, if_true] at h
      have : p = (o, v) := by rw [← e, ← Option.some.inj h]
      simp [pu, e, this]
    · simp only [lk, e, if_false] at h
      simp [pu, e, ih h]
/-- the law's table: how many there are yet -/
structure TR (L R : List Int) (T : Tab) : Prop where
  nd : (T.map (·.1)).Nodup
  val : ∀ k, lk T k = if L.count k = 0 then none else some (R.count k : Int)
theorem TR.len {L R : List Int} {T : Tab} (h : TR L R T) : T.length ≤ L.length := by
  have := nodup_len (R := L) h.nd fun z hz => by
    rw [keys_lk, h.val] at hz
    by_cases e : L.count z = 0
    · simp [e] at hz
    · exact List.one_le_count_iff.mp (by omega)
  rw [List.length_map] at this
  exact this
theorem TR.snd {L R : List Int} {T : Tab} (h : TR L R T) {p : Int × Int} (hp : p ∈ T) : p.2 = R.count p.1 := by
  have h3 := lk_of_mem h.nd hp
  rw [h.val] at h3
  by_cases e : L.count p.1 = 0
  · rw [if_pos e] at h3; cases h3
  · rw [if_neg e] at h3
    exact (Option.some.inj h3).symm
theorem TR.sum {L R : List Int} {T : Tab} (h : TR L R T) (hs : ∀ z ∈ R, z ∈ L) : (T.map (·.2)).sum = R.length := by
  rw [← sum_cnt (R := R) (ks := T.map (·.1)) h.nd (fun z hz => by
    rw [keys_lk, h.val]
    have := List.one_le_count_iff.mpr (hs z hz)
    rw [if_neg (by omega)]
    rfl)]
  rw [List.map_map]
  refine congrArg _ (List.map_congr_left fun p hp => h.snd hp)
theorem TR.dec {L R : List Int} {T : Tab} (h : TR L R T) {o : Int} (ho : o ∈ R) (hL : o ∈ L) : TR L (R.erase o) (pu T o ((R.count o : Int) - 1)) := by
  refine ⟨pu_nodup _ _ h.nd, fun k => ?_⟩
  have h1 := List.one_le_count_iff.mpr ho
  have h2 := List.one_le_count_iff.mpr hL
  rw [lk_pu]
  by_cases e : k = o
  · subst e
    rw [if_pos rfl, if_neg (by omega), List.count_erase_self]
    congr 1
    omega
  · rw [if_neg e, h.val, List.count_erase_of_ne e]
theorem TR.perm {L R R' : List Int} {T : Tab} (h : TR L R T) (p : R.Perm R') : TR L R' T := ⟨h.nd, fun k => by rw [h.val, p.count_eq]⟩
theorem least_no {L F : List Int} {i : Nat} {T : Tab} {o : Int} (hF : F.Perm L) (lp : LeastP L F) (hi : i < F.length) (h : TR L ((F.drop i).erase o) T) (hlt : o < F[i]) (hla : (F.take i).getLast? ≠ some o) (ho : o ∈ F.drop i) : lcf T ((F.drop i).erase o).length o = false := by
  have hc : ∀ k, L.count k = (F.take i).count k + (F.drop i).count k := fun k => by
    rw [← hF.count_eq, ← List.count_append, List.take_append_drop]
  have hoc := List.one_le_count_iff.mpr ho
  have hl := List.length_erase_of_mem ho
  rw [List.length_drop] at hl
  have hLn := hF.length_eq
  have ho2 := hc o
  obtain ⟨k, hk⟩ := lp i hi o hlt hla (by omega)
  have hck := hc k
  unfold lcf
  rw [List.all_eq_false]
  have he : ((F.drop i).erase o).count k = if k = o then (F.drop i).count k - 1 else (F.drop i).count k := by
    by_cases e : k = o
    · subst e; rw [if_pos rfl, List.count_erase_self]
    · rw [if_neg e, List.count_erase_of_ne e]
  have hkL : L.count k ≠ 0 := by
    by_cases e : k = o
    · subst e; omega
    · rw [if_neg e] at hk
      omega
  have hm : (k, (((F.drop i).erase o).count k : Int)) ∈ T := mem_of_lk (by rw [h.val, if_neg hkL])
  refine ⟨_, hm, ?_⟩
  rw [decide_eq_true_eq]
  simp only
  rw [he]
  by_cases e : k = o
  · subst e
    rw [if_pos rfl] at hk
    rw [if_pos rfl, if_pos rfl]
    omega
  · rw [if_neg e] at hk
    rw [if_neg e, if_neg e]
    omega
/-! ### groups -/
def mn (c g : Int) : Int := if g < c then g else c
def roomT (T : Tab) (g : Int) : Int := (T.map fun p => mn p.2 g).sum
def room (L : List Int) (g : Int) : Int := roomT (cn L) g
theorem sum_perm {l m : List Int} (h : l.Perm m) : l.sum = m.sum := by
  induction h with
  | nil => rfl
  | cons x _ ih => rw [List.sum_cons, List.sum_cons, ih]
  | swap x y l => simp only [List.sum_cons]; omega
  | trans _ _ h1 h2 => rw [h1, h2]
theorem room_tally (L : List Int) (g : Int) : roomT (tally L) g = room L g := sum_perm ((cn_perm L).symm.map _)
theorem sum_le {α : Type} {f g : α → Int} : ∀ {l : List α}, (∀ x ∈ l, f x ≤ g x) → (l.map f).sum ≤ (l.map g).sum
  | [], _ => Int.le_refl _
  | a :: r, h => by
    have h1 := h a List.mem_cons_self
    have h2 := sum_le (l := r) fun x hx => h x (List.mem_cons_of_mem _ hx)
    rw [List.map_cons, List.map_cons, List.sum_cons, List.sum_cons]
    omega
theorem sum_mul {α : Type} {f : α → Int} {c : Int} : ∀ {l : List α}, (l.map fun x => f x * c).sum = (l.map f).sum * c
  | [] => by simp
  | a :: r => by
    rw [List.map_cons, List.map_cons, List.sum_cons, List.sum_cons, sum_mul (l := r), Int.add_mul]
theorem cn_nonneg {L : List Int} {p : Int × Int} (h : p ∈ cn L) : 0 < p.2 := by
  obtain ⟨h1, h2⟩ := mem_cn.mp h
  have := List.one_le_count_iff.mpr h1
  omega
theorem cn_sum (L : List Int) : ((cn L).map (·.2)).sum = L.length := by
  rw [← sum_cnt (R := L) (ks := (cn L).map (·.1)) (cn_nodup L) fun z hz => keys_lk.mpr (by
    rw [cn_lk]
    have := List.one_le_count_iff.mpr hz
    rw [if_neg (by omega)]
    rfl)]
  rw [List.map_map]
  exact congrArg _ (List.map_congr_left fun p hp => (mem_cn.mp hp).2)
theorem room_le_len (L : List Int) (g : Int) : room L g ≤ L.length := by
  rw [← cn_sum]
  exact sum_le fun p _ => by unfold mn; split <;> omega
theorem room_mono (L : List Int) {g h : Int} (e : g ≤ h) : room L g ≤ room L h := sum_le fun p _ => by unfold mn; split <;> split <;> omega
theorem room_nn (L : List Int) {g : Int} (h : 0 ≤ g) : 0 ≤ room L g := by
  have : ((cn L).map fun _ => (0 : Int)).sum ≤ room L g := sum_le fun p hp => by
    have := cn_nonneg hp
    unfold mn
    split <;> omega
  have e : ((cn L).map fun _ => (0 : Int)).sum = 0 := by
    generalize cn L = l
    induction l with
    | nil => rfl
    | cons a r ih => rw [List.map_cons, List.sum_cons, ih]; rfl
  omega
/-- fewer groups fill, too -/
theorem room_down (L : List Int) {a b s : Int} (hb : 0 ≤ b) (hab : b ≤ a) (h : a * s ≤ room L a) : b * s ≤ room L b := by
  by_cases h0 : a = 0
  · have : b = 0 := by omega
    subst this
    rw [Int.zero_mul]
    exact room_nn L (Int.le_refl _)
  have hp : 0 < a := by omega
  have h1 : room L a * b ≤ room L b * a := by
    unfold room roomT
    rw [← sum_mul, ← sum_mul]
    refine sum_le fun p hp' => ?_
    have := cn_nonneg hp'
    unfold mn
    split
    · split
      · rw [Int.mul_comm]; exact Int.le_refl _
      · have : p.2 = a ∨ p.2 < b ∨ True := .inr (.inr trivial)
        omega
    · split
      · rename_i h2 h3
        rw [Int.mul_comm b]
        exact Int.mul_le_mul_of_nonneg_right (by omega) hb
      · exact Int.mul_le_mul_of_nonneg_left hab (by omega)
  have h2 : a * s * b ≤ room L a * b := Int.mul_le_mul_of_nonneg_right h hb
  have h3 : (b * s) * a ≤ room L b * a := by
    have e : a * s * b = (b * s) * a := by rw [Int.mul_comm, ← Int.mul_assoc, Int.mul_right_comm]
    omega
  exact Int.le_of_mul_le_mul_right h3 hp
theorem room_one {L : List Int} {a b s : Int} (ha : 0 ≤ a) (hb : 0 ≤ b) (h1 : a * s ≤ room L a) (h2 : room L (a + 1) < (a + 1) * s) (h3 : b * s ≤ room L b) (h4 : room L (b + 1) < (b + 1) * s) : a = b := by
  refine Classical.byContradiction fun z => ?_
  by_cases h : a < b
  · have := room_down L (a := b) (b := a + 1) (s := s) (by omega) (by omega) h3
    omega
  · have := room_down L (a := a) (b := b + 1) (s := s) (by omega) (by omega) h1
    omega
/-! things dealt round -/
def thg (L : List Int) (m : Int) : List Int := (cn L).flatMap fun p => List.replicate (mn p.2 m).toNat p.1
theorem flat_len (T : Tab) (f : Int × Int → Nat) (k : Int × Int → Int) : (T.flatMap fun p => List.replicate (f p) (k p)).length = (T.map f).sum := by
  induction T with
  | nil => rfl
  | cons p r ih => rw [List.flatMap_cons, List.length_append, List.length_replicate, ih, List.map_cons, List.sum_cons]
theorem thg_len (L : List Int) {m : Int} (h : 0 ≤ m) : ((thg L m).length : Int) = room L m := by
  unfold thg room roomT
  rw [flat_len]
  have hn : ∀ p ∈ cn L, 0 < p.2 := fun p hp => cn_nonneg hp
  generalize cn L = T at hn
  induction T with
  | nil => rfl
  | cons p r ih =>
    have h1 := hn p List.mem_cons_self
    rw [List.map_cons, List.map_cons, List.sum_cons, List.sum_cons, ← ih fun q hq => hn q (List.mem_cons_of_mem _ hq)]
    have : 0 ≤ mn p.2 m := by unfold mn; split <;> omega
    omega
theorem flat_run {T : Tab} {f : Int × Int → Nat} (nd : (T.map (·.1)).Nodup) {k : Int} : k ∈ (T.flatMap fun p => List.replicate (f p) p.1) →
    ∃ p ∈ T, p.1 = k ∧ ∃ A C, (T.flatMap fun p => List.replicate (f p) p.1) = A ++ List.replicate (f p) k ++ C ∧ k ∉ A ∧ k ∉ C := by
  intro h
  obtain ⟨p, hp, hk⟩ := List.mem_flatMap.mp h
  have ek := (List.mem_replicate.mp hk).2
  obtain ⟨s, t, e⟩ := List.append_of_mem hp
  subst e
  refine ⟨p, hp, ek.symm, s.flatMap fun p => List.replicate (f p) p.1, t.flatMap fun p => List.replicate (f p) p.1, ?_, ?_⟩
  · rw [List.flatMap_append, List.flatMap_cons, List.append_assoc, ek]
  · rw [List.map_append, List.map_cons] at nd
    obtain ⟨_, n2, n3⟩ := List.nodup_append.mp nd
    have h1 : p.1 ∉ s.map (·.1) := fun z => n3 _ z _ List.mem_cons_self rfl
    have h2 := (List.nodup_cons.mp n2).1
    constructor
    · intro z
      obtain ⟨j, hj, hz⟩ := List.mem_flatMap.mp z
      refine h1 ?_
      rw [← ek, (List.mem_replicate.mp hz).2]
      exact List.mem_map_of_mem hj
    · intro z
      obtain ⟨j, hj, hz⟩ := List.mem_flatMap.mp z
      refine h2 ?_
      rw [← ek, (List.mem_replicate.mp hz).2]
      exact List.mem_map_of_mem hj
theorem run_near {X A C : List Int} {k : Int} {n i j : Nat} (eb : X = A ++ List.replicate n k ++ C) (hA : k ∉ A) (hC : k ∉ C) (gi : X[i]? = some k) (gj : X[j]? = some k) : j < i + n := by
  rw [eb] at gi gj
  have h1 : A.length ≤ i := by
    refine Nat.le_of_not_lt fun z => hA ?_
    rw [List.append_assoc, List.getElem?_append_left z] at gi
    exact List.mem_of_getElem? gi
  have h2 : j < A.length + n := by
    refine Nat.lt_of_not_le fun z => hC ?_
    rw [List.getElem?_append_right (by rw [List.length_append, List.length_replicate]; exact z)] at gj
    exact List.mem_of_getElem? gj
  omega
theorem thg_near {L : List Int} {m : Int} {i j : Nat} {k : Int} (hm : 0 ≤ m) (gi : (thg L m)[i]? = some k) (gj : (thg L m)[j]? = some k) : (j : Int) < i + m := by
  obtain ⟨p, hp, _, A, C, e, hA, hC⟩ := flat_run (T := cn L) (f := fun p => (mn p.2 m).toNat) (cn_nodup L) (List.mem_of_getElem? gi)
  have h1 := run_near e hA hC gi gj
  have h2 : mn p.2 m ≤ m := by unfold mn; split <;> omega
  omega
theorem thg_count (L : List Int) (m k : Int) : (thg L m).count k ≤ L.count k := by
  by_cases h : k ∈ thg L m
  · obtain ⟨p, hp, ek, A, C, e, hA, hC⟩ := flat_run (T := cn L) (f := fun p => (mn p.2 m).toNat) (cn_nodup L) h
    have e : thg L m = A ++ List.replicate (mn p.2 m).toNat k ++ C := e
    rw [e, List.count_append, List.count_append, List.count_eq_zero.mpr hA, List.count_eq_zero.mpr hC, List.count_replicate_self]
    have h2 := (mem_cn.mp hp).2
    rw [ek] at h2
    have h3 : mn p.2 m ≤ p.2 := by unfold mn; split <;> omega
    omega
  · rw [List.count_eq_zero.mpr h]
    exact Nat.zero_le _
/-- dealt so far -/
def deal (th : List Int) (m : Nat) : Nat → List (List Int)
  | 0 => List.replicate m []
  | i + 1 => (deal th m i).set (i % m) ((deal th m i).getD (i % m) [] ++ [th.getD i 0])
theorem deal_len (th : List Int) (m i : Nat) : (deal th m i).length = m := by
  induction i with
  | zero => simp [deal]
  | succ i ih => simp [deal, ih]
theorem deal_at (th : List Int) {m : Nat} (hm : 0 < m) (i j : Nat) (hj : j < m) : (deal th m i)[j]? = some (((List.range i).filter fun a => decide (a % m = j)).map fun a => th.getD a 0) := by
  induction i with
  | zero =>
    show (List.replicate m [])[j]? = _
    rw [List.getElem?_replicate, if_pos hj]
    rfl
  | succ i ih =>
    show ((deal th m i).set (i % m) _)[j]? = _
    rw [List.range_succ, List.filter_append, List.map_append]
    by_cases e : i % m = j
    · rw [e, List.getElem?_set_self (by rw [deal_len]; exact hj), List.getD_eq_getElem?_getD, ih]
      simp [e]
    · rw [List.getElem?_set_ne e, ih]
      simp [e]
theorem flatten_set {G : List (List Int)} {j : Nat} {z : Int} (h : j < G.length) : (G.set j (G.getD j [] ++ [z])).flatten.Perm (G.flatten ++ [z]) := by
  induction G generalizing j with
  | nil => cases h
  | cons g r ih =>
    cases j with
    | zero =>
      show (g ++ [z] ++ r.flatten).Perm (g ++ r.flatten ++ [z])
      rw [List.append_assoc, List.append_assoc]
      exact List.Perm.append_left g List.perm_append_comm
    | succ j =>
      show (g ++ (r.set j (r.getD j [] ++ [z])).flatten).Perm (g ++ r.flatten ++ [z])
      rw [List.append_assoc]
      exact List.Perm.append_left g (ih (by simpa using h))
theorem deal_flat (th : List Int) {m : Nat} (hm : 0 < m) (i : Nat) (hi : i ≤ th.length) : (deal th m i).flatten.Perm (th.take i) := by
  induction i with
  | zero =>
    show (List.replicate m []).flatten.Perm _
    have : (List.replicate m ([] : List Int)).flatten = [] := by
      induction m with
      | zero => rfl
      | succ m ih => simp
    rw [this]
    exact .refl _
  | succ i ih =>
    refine (flatten_set (by rw [deal_len]; exact Nat.mod_lt _ hm)).trans ?_
    rw [List.take_add_one, List.getElem?_eq_getElem (by omega), List.getD_eq_getElem?_getD, List.getElem?_eq_getElem (by omega)]
    exact List.Perm.append_right _ (ih (by omega))
theorem range_pick {m s j : Nat} (hj : j < m) : (List.range (m * s)).filter (fun a => decide (a % m = j)) = (List.range s).map fun b => m * b + j := by
  induction s with
  | zero => rfl
  | succ s ih =>
    rw [Nat.mul_succ, List.range_add, List.filter_append, ih, List.range_succ, List.map_append]
    congr 1
    rw [List.filter_map]
    have e : (List.range m).filter ((fun a => decide (a % m = j)) ∘ fun x => m * s + x) = [j] := by
      have e1 : (List.range m).filter ((fun a => decide (a % m = j)) ∘ fun x => m * s + x) = (List.range m).filter fun x => x == j := List.filter_congr fun x hx => by
        have hx := List.mem_range.mp hx
        show decide ((m * s + x) % m = j) = (x == j)
        rw [Nat.mul_add_mod, Nat.mod_eq_of_lt hx]
        by_cases y : x = j <;> simp [y]
      rw [e1, List.filter_beq, List.Nodup.count List.nodup_range, if_pos (List.mem_range.mpr hj)]
      rfl
    rw [e]
    rfl
theorem deal_full (th : List Int) {m s j : Nat} (hm : 0 < m) (hj : j < m) : (deal th m (m * s))[j]? = some ((List.range s).map fun b => th.getD (m * b + j) 0) := by
  rw [deal_at th hm _ j hj, range_pick hj, List.map_map]
  rfl
structure GroupOK (L : List Int) (n : Nat) (G : List (List Int)) : Prop where
  size : ∀ g ∈ G, g.length = n ∧ g.Nodup
  cnt : ∀ k, G.flatten.count k ≤ L.count k
  fits : (G.length : Int) * n ≤ room L G.length
  more : room L (G.length + 1) < ((G.length : Int) + 1) * n
theorem deal_ok {L : List Int} {m n : Nat} (h : (m : Int) * n ≤ room L m) (h2 : room L ((m : Int) + 1) < ((m : Int) + 1) * n) : GroupOK L n (deal (thg L m) m (m * n)) := by
  have hl := thg_len L (m := m) (by omega)
  by_cases hm : 0 < m
  · have hb : m * n ≤ (thg L m).length := by
      have : ((m * n : Nat) : Int) ≤ (thg L m).length := by rw [hl, Int.natCast_mul]; exact h
      omega
    have ent : ∀ b j, b < n → j < m → m * b + j < m * n := fun b j h1 h2 => by
      have : m * (b + 1) ≤ m * n := Nat.mul_le_mul_left m h1
      rw [Nat.mul_succ] at this
      omega
    refine ⟨fun g hg => ?_, fun k => ?_, by rw [deal_len]; exact h, by rw [deal_len]; exact h2⟩
    · obtain ⟨j, hj, e⟩ := List.getElem_of_mem hg
      have hj' : j < m := by rw [deal_len] at hj; exact hj
      have e2 := deal_full (thg L m) (s := n) hm hj'
      rw [List.getElem?_eq_getElem hj, e] at e2
      rw [Option.some.inj e2]
      refine ⟨by simp, ?_⟩
      refine List.nodup_iff_pairwise_ne.mpr (List.Pairwise.map _ (R := fun a b => a < b ∧ b < n) (fun a b hab z => ?_) ?_)
      · obtain ⟨h1, h2⟩ := hab
        have i1 := ent a j (by omega) hj'
        have i2 := ent b j h2 hj'
        have g1 := getD_get? (L := thg L m) (i := m * a + j) (by omega)
        have g2 := getD_get? (L := thg L m) (i := m * b + j) (by omega)
        rw [← z] at g2
        have := thg_near (by omega) g1 g2
        have h3 : m * (a + 1) ≤ m * b := Nat.mul_le_mul_left m h1
        rw [Nat.mul_succ] at h3
        omega
      · have := List.pairwise_lt_range (n := n)
        refine List.Pairwise.imp_of_mem ?_ this
        exact fun {a b} _ hb h => ⟨h, List.mem_range.mp hb⟩
    · rw [(deal_flat (thg L m) hm (m * n) hb).count_eq]
      exact Nat.le_trans ((List.take_sublist _ _).count_le k) (thg_count L m k)
  · obtain rfl : m = 0 := by omega
    have e : deal (thg L ((0 : Nat) : Int)) 0 (0 * n) = [] := List.length_eq_zero_iff.mp (deal_len _ _ _)
    rw [e]
    exact ⟨(fun g hg => by cases hg), (fun k => Nat.zero_le _), h, h2⟩
/-! what groups show -/
def showsG (G : List (List Int)) (M : List Int) (n : Int) : Bool := G.all (fun g => decide ((g.length : Int) = n) && decide (((dd g).length : Int) = n)) && (G.flatten.all (fun k => decide (G.flatten.count k ≤ M.count k)) && decide (room M (G.length + 1) < ((G.length : Int) + 1) * n))
theorem GroupOK.shows {L : List Int} {n : Nat} {G : List (List Int)} (h : GroupOK L n G) : showsG G L n = true := by
  unfold showsG
  rw [Bool.and_eq_true, Bool.and_eq_true]
  refine ⟨List.all_eq_true.mpr fun g hg => ?_, List.all_eq_true.mpr fun k _ => decide_eq_true (h.cnt k), decide_eq_true h.more⟩
  obtain ⟨h1, h2⟩ := h.size g hg
  rw [dd_full.mpr h2, h1, decide_eq_true rfl]
  rfl
theorem showsG_bad {G : List (List Int)} {M : List Int} {n : Int} {g : List Int} (hg : g ∈ G) (h : ¬ ((g.length : Int) = n ∧ ((dd g).length : Int) = n)) : showsG G M n = false := by
  unfold showsG
  have : G.all (fun g => decide ((g.length : Int) = n) && decide (((dd g).length : Int) = n)) = false := by
    rw [List.all_eq_false]
    refine ⟨g, hg, fun z => h ?_⟩
    rw [Bool.and_eq_true, decide_eq_true_eq, decide_eq_true_eq] at z
    exact z
  rw [this, Bool.false_and]
/-- the table when the kinds X are taken from M -/
def subT (M X : List Int) : Tab := X.foldl (fun t k => pu t k ((lk t k).getD 0 - 1)) (cn M)
def subL (T0 : Tab) (X : List Int) : Tab := X.foldl (fun t k => pu t k ((lk t k).getD 0 - 1)) T0
theorem subL_snoc (T0 : Tab) (X : List Int) (k : Int) : subL T0 (X ++ [k]) = pu (subL T0 X) k ((lk (subL T0 X) k).getD 0 - 1) := by
  unfold subL
  rw [List.foldl_append]
  rfl
theorem subL_nodup {T0 : Tab} (h : (T0.map (·.1)).Nodup) (X : List Int) : ((subL T0 X).map (·.1)).Nodup := by
  refine snoc_ind (P := fun X => ((subL T0 X).map (·.1)).Nodup) h (fun l k ih => ?_) X
  rw [subL_snoc]
  exact pu_nodup _ _ ih
theorem subL_len (T0 : Tab) (X : List Int) : (subL T0 X).length ≤ T0.length + X.length := by
  refine snoc_ind (P := fun X => (subL T0 X).length ≤ T0.length + X.length) (Nat.le_refl _) (fun l k ih => ?_) X
  rw [subL_snoc, List.length_append]
  have := pu_len (subL T0 l) k ((lk (subL T0 l) k).getD 0 - 1)
  show _ ≤ _ + (_ + 1)
  omega
theorem subL_lk {T0 M : List Int} (X : List Int) {T : Tab} (h : ∀ k, lk T k = if M.count k = 0 then none else some (M.count k : Int)) (k : Int) :
    lk (subL T X) k = if M.count k = 0 ∧ X.count k = 0 then none else some ((M.count k : Int) - X.count k) := by
  refine snoc_ind (P := fun X => ∀ k, lk (subL T X) k = if M.count k = 0 ∧ X.count k = 0 then none else some ((M.count k : Int) - X.count k)) (fun k => ?_) (fun l j ih k => ?_) X k
  · show lk T k = _
    rw [h]
    by_cases e : M.count k = 0 <;> simp [e]
  · rw [subL_snoc, lk_pu, ih j, ih k, List.count_append]
    by_cases e : k = j
    · subst e
      have n1 : ¬ (M.count k = 0 ∧ l.count k + 1 = 0) := by omega
      rw [if_pos rfl, List.count_singleton_self, if_neg n1]
      by_cases z : M.count k = 0 ∧ l.count k = 0
      · rw [if_pos z]
        obtain ⟨z1, z2⟩ := z
        simp [z1, z2]
      · rw [if_neg z]
        refine congrArg some ?_
        show (M.count k : Int) - l.count k - 1 = _
        omega
    · have : List.count k [j] = 0 := by
        rw [List.count_eq_zero]
        simp [e]
      rw [if_neg e, this]
      rfl
theorem subL_neg {M : List Int} (X : List Int) {T : Tab} (nd : (T.map (·.1)).Nodup) (h : ∀ k, lk T k = if M.count k = 0 then none else some (M.count k : Int)) :
    (∃ p ∈ subL T X, p.2 < 0) ↔ X.all (fun k => decide (X.count k ≤ M.count k)) = false := by
  have hv : ∀ p ∈ subL T X, p.2 = (M.count p.1 : Int) - X.count p.1 := fun p hp => by
    have h3 := lk_of_mem (subL_nodup nd X) hp
    rw [subL_lk (T0 := []) X h] at h3
    split at h3
    · cases h3
    · exact (Option.some.inj h3).symm
  rw [List.all_eq_false]
  constructor
  · rintro ⟨p, hp, hn⟩
    have := hv p hp
    refine ⟨p.1, List.one_le_count_iff.mp (by omega), ?_⟩
    rw [decide_eq_true_eq]
    omega
  · rintro ⟨k, hk, hn⟩
    rw [decide_eq_true_eq] at hn
    have h1 := List.one_le_count_iff.mpr hk
    have h3 : lk (subL T X) k = some ((M.count k : Int) - X.count k) := by rw [subL_lk (T0 := []) X h, if_neg (by omega)]
    exact ⟨_, mem_of_lk h3, by show (M.count k : Int) - X.count k < 0; omega⟩
/-! as many groups of two as pairs -/
theorem room_pair {L : List Int} {P : Nat} (h : (P : Int) = mn ((L.length : Int) - mostI L) ((L.length : Int) / 2)) : (P : Int) * 2 ≤ room L P ∧ room L ((P : Int) + 1) < ((P : Int) + 1) * 2 := by
  have hle := most_le_len L
  have hnn := most_nn L
  have full : ∀ g : Int, mostI L ≤ g → room L g = L.length := fun g hg => by
    rw [← cn_sum]
    unfold room roomT
    refine congrArg _ (List.map_congr_left fun p hp => ?_)
    have h1 := (mem_cn.mp hp).2
    have h2 := cnt_le_most L p.1
    unfold mn
    rw [if_neg (by omega)]
  by_cases hL : L = []
  · subst hL
    rw [most_nil] at *
    have hP : P = 0 := by
      have : mn ((([] : List Int).length : Int) - 0) ((([] : List Int).length : Int) / 2) = 0 := rfl
      omega
    subst hP
    have h1 := full 0 (Int.le_refl _)
    have h2 := full 1 (by decide)
    constructor
    · show (0 : Int) * 2 ≤ room [] 0
      rw [h1]
      decide
    · show room [] (0 + 1) < _
      rw [show (0 : Int) + 1 = 1 from rfl, h2]
      decide
  by_cases hm : 2 * mostI L < L.length
  · have e : (P : Int) = (L.length : Int) / 2 := by
      rw [h]
      unfold mn
      split <;> omega
    rw [full _ (by omega), full _ (by omega)]
    omega
  · have e : (P : Int) = (L.length : Int) - mostI L := by
      rw [h]
      unfold mn
      split <;> omega
    obtain ⟨k, hk, ek⟩ := most_mem hL
    -- the commonest kind and the others
    have key : ∀ g : Int, (L.length : Int) - mostI L ≤ g → room L g = mn (mostI L) g + ((L.length : Int) - mostI L) := fun g hg => by
      have hmem := mem_cn_of hk
      obtain ⟨s, t, es⟩ := List.append_of_mem hmem
      have hs : ((cn L).map (·.2)).sum = L.length := cn_sum L
      have oth : ∀ p ∈ cn L, p.1 ≠ k → p.2 ≤ g := fun p hp hpk => by
        have h1 := (mem_cn.mp hp).2
        have h2 := count_two (R := L) hpk
        omega
      have nd := cn_nodup L
      unfold room roomT
      rw [es] at hs oth nd ⊢
      rw [List.map_append, List.map_cons] at nd
      obtain ⟨_, n2, n3⟩ := List.nodup_append.mp nd
      have h1 : ∀ p ∈ s, p.1 ≠ k := fun p hp z => n3 _ (List.mem_map_of_mem (f := fun p : Int × Int => p.1) hp) _ List.mem_cons_self z
      have h2 : ∀ p ∈ t, p.1 ≠ k := fun p hp z => (List.nodup_cons.mp n2).1 (by
        have h3 : p.1 ∈ t.map (·.1) := List.mem_map_of_mem (f := fun p : Int × Int => p.1) hp
        rw [z] at h3
        exact h3)
      have c1 : (s.map fun p => mn p.2 g) = s.map (·.2) := List.map_congr_left fun p hp => by
        have := oth p (List.mem_append_left _ hp) (h1 p hp)
        unfold mn
        rw [if_neg (by omega)]
      have c2 : (t.map fun p => mn p.2 g) = t.map (·.2) := List.map_congr_left fun p hp => by
        have := oth p (List.mem_append_right _ (List.mem_cons_of_mem _ hp)) (h2 p hp)
        unfold mn
        rw [if_neg (by omega)]
      rw [List.map_append, List.map_cons, List.sum_append, List.sum_cons] at hs ⊢
      rw [c1, c2]
      simp only at hs ⊢
      rw [ek] at hs ⊢
      omega
    rw [key _ (by omega), key _ (by omega)]
    unfold mn
    split <;> split <;> omega
/-! lists within lists -/
abbrev oL : List Int → HO := fun xs => .lst (LI xs)
theorem objs_at {H : Hp} {α : Type} {o : α → HO} {ts : List Addr} {L : List α} (h : ObjsAt H o ts L) {i : Nat} (hi : i < L.length) {x : V} (hx : (ts.map V.ref)[i]? = some x) : ∃ t, x = .ref t ∧ H t = some (o L[i]) ∧ ts[i]? = some t := by
  obtain ⟨h1, rfl⟩ := refs_inv hx
  exact ⟨_, rfl, paired_at h i h1 hi, List.getElem?_eq_getElem h1⟩
theorem ObjsAt.get {H : Hp} {α : Type} {o : α → HO} {ts : List Addr} {L : List α} (h : ObjsAt H o ts L) {i : Nat} (hi : i < L.length) : ∃ t, ts[i]? = some t ∧ H t = some (o L[i]) := by
  have hl := paired_len h
  exact ⟨ts[i]'(by omega), List.getElem?_eq_getElem (by omega), paired_at h i (by omega) hi⟩
theorem ObjsAt.put {H : Hp} {α : Type} {o : α → HO} {g : Addr} {x : α} : ∀ {ts : List Addr} {L : List α} {j : Nat}, ObjsAt H o ts L → ts.Nodup → ts[j]? = some g → ObjsAt (upd H g (o x)) o ts (L.set j x)
  | _, _, _, .nil, _, h => by cases h
  | t :: ts, y :: L, 0, .cons h r, nd, e => by
    obtain rfl : t = g := Option.some.inj e
    refine .cons upd_same (ObjsAt.off r fun u hu => upd_ne fun z => (List.nodup_cons.mp nd).1 (by rw [← z]; exact hu))
  | t :: ts, y :: L, j + 1, .cons h r, nd, e => by
    have e' : ts[j]? = some g := e
    have ne : t ≠ g := fun z => (List.nodup_cons.mp nd).1 (by rw [z]; exact List.mem_of_getElem? e')
    exact .cons (by rw [upd_ne ne]; exact h) (ObjsAt.put r (List.nodup_cons.mp nd).2 e')
theorem ObjsAt.sm {K : PySem.W.Frag} {H H' : Hp} {α : Type} {o : α → HO} (s : Sm K H H') (ho : ∀ x ps, o x ≠ .tbl ps) : ∀ {ts : List Addr} {L : List α}, ObjsAt H o ts L → ObjsAt H' o ts L
  | _, _, .nil => .nil
  | _, _, .cons h t => .cons (s.keep _ _ h (ho _)) (ObjsAt.sm s ho t)
theorem ObjsAt.upd {H : Hp} {α : Type} {o : α → HO} {p : Addr} {u : HO} {ts : List Addr} {L : List α} (h : ObjsAt H o ts L) (hp : p ∉ ts) : ObjsAt (upd H p u) o ts L := h.off fun t ht => upd_ne fun z => hp (by rw [← z]; exact ht)
theorem ObjsAt.map {H : Hp} {α β : Type} {o : β → HO} {f : α → β} : ∀ {ts : List Addr} {L : List α}, ObjsAt H (fun x => o (f x)) ts L → ObjsAt H o ts (L.map f)
  | _, _, .nil => .nil
  | _, _, .cons h t => .cons h (ObjsAt.map t)
theorem oL_ne (x : List Int) (ps) : oL x ≠ .tbl ps := fun z => by cases z
theorem flat_same {n : Nat} : ∀ {G : List (List Int)}, (∀ g ∈ G, g.length = n) → G.flatten.length = G.length * n
  | [], _ => by simp
  | g :: r, h => by
    rw [List.flatten_cons, List.length_append, flat_same fun x hx => h x (List.mem_cons_of_mem _ hx), h g List.mem_cons_self, List.length_cons, Nat.succ_mul, Nat.add_comm]
theorem rep_five (n : Nat) : (List.replicate n [V.int 5]).flatten = LI (List.replicate n 5) := by
  induction n with
  | zero => rfl
  | succ n ih =>
    rw [List.replicate_succ, List.flatten_cons, ih]
    rfl
theorem dd_rep {n : Nat} (h : 2 ≤ n) : (dd (List.replicate n 5)).length = 1 := by
  refine (dd_one (by intro z; rw [List.replicate_eq_nil_iff] at z; omega)).mpr fun z hz => ?_
  obtain ⟨j, rfl⟩ : ∃ j, n = j + 1 := ⟨n - 1, by omega⟩
  rw [(List.mem_replicate.mp hz).2]
  rfl
theorem neg_min {T : Tab} {m : Int} (hm : m ∈ 0 :: T.map (·.2)) (hle : ∀ y ∈ 0 :: T.map (·.2), m ≤ y) : m < 0 ↔ ∃ p ∈ T, p.2 < 0 := by
  constructor
  · intro h
    rcases List.mem_cons.mp hm with e | e
    · omega
    · obtain ⟨p, hp, rfl⟩ := List.mem_map.mp e
      exact ⟨p, hp, h⟩
  · rintro ⟨p, hp, h⟩
    have := hle p.2 (List.mem_cons_of_mem _ (List.mem_map_of_mem hp))
    omega
/-! ### a row with gaps -/
def lastI (F : List Int) : Nat → Int → Option Int
  | 0, _ => none
  | i + 1, k => if F.getD i 0 = k then some (i : Int) else lastI F i k
def badB (F : List Int) (d : Int) (i : Nat) : Bool := decide (F.getD i 0 ≠ -1) && (match lastI F i (F.getD i 0) with | none => false | some p => decide ((i : Int) - p < d))
def spB (F : List Int) (d : Int) : Bool := (List.range F.length).all fun i => !badB F d i
def nogap (F : List Int) : List Int := F.filter fun z => decide (z ≠ -1)
def showsS (F M : List Int) (d : Int) : Bool := decide (srt (nogap F) = srt M) && (spB F d && (decide (F.length = M.length) || decide ((F.length : Int) = (mostI M - 1) * d + (cmn M).length)))
theorem lastI_some {F : List Int} {k p : Int} : ∀ {i : Nat}, lastI F i k = some p → ∃ j : Nat, p = j ∧ j < i ∧ F.getD j 0 = k
  | 0, h => by cases h
  | i + 1, h => by
    unfold lastI at h
    by_cases e : F.getD i 0 = k
    · rw [if_pos e] at h
      exact ⟨i, (Option.some.inj h).symm, by omega, e⟩
    · rw [if_neg e] at h
      obtain ⟨j, h1, h2, h3⟩ := lastI_some h
      exact ⟨j, h1, by omega, h3⟩
theorem spB_of {F : List Int} {d : Int} (h : ∀ i j : Nat, i < j → j < F.length → F.getD i 0 = F.getD j 0 → F.getD j 0 ≠ -1 → d ≤ (j : Int) - i) : spB F d = true := by
  unfold spB
  refine List.all_eq_true.mpr fun j hj => ?_
  have hj := List.mem_range.mp hj
  have : badB F d j = false := by
    unfold badB
    by_cases e : F.getD j 0 ≠ -1
    · cases el : lastI F j (F.getD j 0) with
      | none => simp
      | some p =>
        obtain ⟨i, rfl, h1, h2⟩ := lastI_some el
        have := h i j h1 hj h2 e
        rw [decide_eq_true e]
        exact decide_eq_false (by omega)
    · rw [decide_eq_false e]
      rfl
  rw [this]
  rfl
/-! the picks of every M-th -/
theorem pick_len {M j : Nat} (hj : j < M) (n : Nat) : ((List.range n).filter fun a => decide (a % M = j)).length = n / M + (if j < n % M then 1 else 0) := by
  induction n with
  | zero =>
    rw [Nat.zero_div, Nat.zero_mod]
    rfl
  | succ n ih =>
    have hd := Nat.div_add_mod n M
    have hm := Nat.mod_lt n (show 0 < M by omega)
    rw [List.range_succ, List.filter_append, List.length_append, ih]
    generalize hq : n / M = q at *
    generalize hr : n % M = r at *
    by_cases e : r + 1 < M
    · have e1 : n + 1 = M * q + (r + 1) := by omega
      have d1 : (n + 1) / M = q := by rw [e1, Nat.mul_add_div (by omega), Nat.div_eq_of_lt e]; rfl
      have d2 : (n + 1) % M = r + 1 := by rw [e1, Nat.mul_add_mod, Nat.mod_eq_of_lt e]
      rw [d1, d2]
      by_cases e2 : r = j
      · simp [hr, e2]
      · simp [hr, e2]
        split <;> split <;> omega
    · have e1 : n + 1 = M * (q + 1) := by rw [Nat.mul_succ]; omega
      have d1 : (n + 1) / M = q + 1 := by rw [e1, Nat.mul_div_cancel_left _ (by omega)]
      have d2 : (n + 1) % M = 0 := by rw [e1, Nat.mul_mod_right]
      rw [d1, d2]
      by_cases e2 : r = j
      · simp [hr, e2]
      · simp [hr, e2]
        omega
theorem pick_get {M j : Nat} (hj : j < M) : ∀ (n : Nat) {x a : Nat}, ((List.range n).filter fun a => decide (a % M = j))[x]? = some a → a % M = j ∧ a / M = x ∧ a < n
  | 0, _, _, h => by cases h
  | n + 1, x, a, h => by
    rw [List.range_succ, List.filter_append] at h
    by_cases e : x < ((List.range n).filter fun a => decide (a % M = j)).length
    · rw [List.getElem?_append_left e] at h
      obtain ⟨h1, h2, h3⟩ := pick_get hj n h
      exact ⟨h1, h2, by omega⟩
    · rw [List.getElem?_append_right (by omega)] at h
      by_cases e2 : n % M = j
      · simp only [e2, decide_true, List.filter_cons_of_pos, List.filter_nil] at h
        have hx : x - ((List.range n).filter fun a => decide (a % M = j)).length = 0 := by
          refine Classical.byContradiction fun z => ?_
          rw [List.getElem?_eq_none (by simp only [List.length_singleton]; omega)] at h
          cases h
        rw [hx] at h
        obtain rfl : n = a := Option.some.inj h
        have := pick_len hj n
        rw [e2, if_neg (Nat.lt_irrefl j)] at this
        exact ⟨e2, by omega, by omega⟩
      · simp [e2] at h
/-! things dealt to blocks -/
def dealG (B0 : List (List Int)) (th : List Int) (M : Nat) : Nat → List (List Int)
  | 0 => B0
  | i + 1 => (dealG B0 th M i).set (i % M) ((dealG B0 th M i).getD (i % M) [] ++ [th.getD i 0])
theorem dealG_len (B0 : List (List Int)) (th : List Int) (M i : Nat) : (dealG B0 th M i).length = B0.length := by
  induction i with
  | zero => rfl
  | succ i ih => simp [dealG, ih]
theorem dealG_at (B0 : List (List Int)) (th : List Int) {M : Nat} (hM : 0 < M) (hB : M ≤ B0.length) (i j : Nat) (hj : j < M) : (dealG B0 th M i)[j]? = some (B0.getD j [] ++ ((List.range i).filter fun a => decide (a % M = j)).map fun a => th.getD a 0) := by
  induction i with
  | zero =>
    show B0[j]? = _
    rw [List.getD_eq_getElem?_getD, List.getElem?_eq_getElem (by omega)]
    simp
  | succ i ih =>
    show ((dealG B0 th M i).set (i % M) _)[j]? = _
    rw [List.range_succ, List.filter_append, List.map_append]
    by_cases e : i % M = j
    · rw [e, List.getElem?_set_self (by rw [dealG_len]; omega), List.getD_eq_getElem?_getD, ih]
      simp [e]
    · rw [List.getElem?_set_ne e, ih]
      simp [e]
theorem dealG_off (B0 : List (List Int)) (th : List Int) {M : Nat} (hM : 0 < M) (i j : Nat) (hj : M ≤ j) : (dealG B0 th M i)[j]? = B0[j]? := by
  induction i with
  | zero => rfl
  | succ i ih =>
    show ((dealG B0 th M i).set (i % M) _)[j]? = _
    have := Nat.mod_lt i hM
    rw [List.getElem?_set_ne (by omega), ih]
theorem dealG_flat (B0 : List (List Int)) (th : List Int) {M : Nat} (hM : 0 < M) (hB : M ≤ B0.length) (i : Nat) (hi : i ≤ th.length) : (dealG B0 th M i).flatten.Perm (B0.flatten ++ th.take i) := by
  induction i with
  | zero =>
    rw [List.take_zero, List.append_nil]
    exact .refl _
  | succ i ih =>
    refine (flatten_set (by rw [dealG_len]; have := Nat.mod_lt i hM; omega)).trans ?_
    rw [List.take_add_one, List.getElem?_eq_getElem (by omega), List.getD_eq_getElem?_getD, List.getElem?_eq_getElem (by omega), ← List.append_assoc]
    exact List.Perm.append_right _ (ih (by omega))
/-! the row -/
def ot (L : List Int) : List Int := (byc L).filter fun z => decide (z ∉ cmn L)
def mNat (L : List Int) : Nat := (mostI L).toNat
def blks (L : List Int) : List (List Int) := dealG (List.replicate (mNat L) (cmn L)) (ot L) (mNat L - 1) (ot L).length
def padd (d : Nat) (b : List Int) : List Int := b ++ List.replicate (d - b.length) (-1)
def rowS (L : List Int) (d : Nat) : List Int := ((blks L).take (mNat L - 1)).flatMap (padd d) ++ cmn L
theorem mNat_eq (L : List Int) : (mNat L : Int) = mostI L := by
  have := most_nn L
  unfold mNat
  omega
theorem cmn_iff {L : List Int} {k : Int} : k ∈ cmn L ↔ k ∈ L ∧ (L.count k : Int) = mostI L := by
  unfold cmn
  rw [List.mem_map]
  constructor
  · rintro ⟨p, hp, rfl⟩
    obtain ⟨h1, h2⟩ := List.mem_filter.mp hp
    obtain ⟨h3, h4⟩ := mem_cn.mp h1
    exact ⟨h3, by rw [← h4]; exact of_decide_eq_true h2⟩
  · rintro ⟨h1, h2⟩
    exact ⟨(k, (L.count k : Int)), List.mem_filter.mpr ⟨mem_cn_of h1, decide_eq_true h2⟩, rfl⟩
theorem cmn_nodup (L : List Int) : (cmn L).Nodup := by
  unfold cmn
  exact (cn_nodup L).sublist ((List.filter_sublist (p := fun p : Int × Int => decide (p.2 = mostI L)) (l := cn L)).map (·.1))
theorem cmn_ne {L : List Int} (h : L ≠ []) : 0 < (cmn L).length := by
  obtain ⟨k, hk, _⟩ := cmn_mem h
  exact List.length_pos_of_mem hk
theorem ot_mem {L : List Int} {k : Int} : k ∈ ot L ↔ k ∈ L ∧ k ∉ cmn L := by
  unfold ot
  rw [List.mem_filter, (byc_perm L).mem_iff, decide_eq_true_eq]
theorem ot_small {L : List Int} {k : Int} (h : k ∈ ot L) : L.count k + 1 ≤ mNat L := by
  obtain ⟨h1, h2⟩ := ot_mem.mp h
  have h3 := cnt_le_most L k
  have h4 : ¬ (L.count k : Int) = mostI L := fun z => h2 (cmn_iff.mpr ⟨h1, z⟩)
  have := mNat_eq L
  omega
theorem ot_count {L : List Int} {k : Int} : (ot L).count k = if k ∈ cmn L then 0 else L.count k := by
  by_cases e : k ∈ cmn L
  · rw [if_pos e, List.count_eq_zero]
    exact fun z => (ot_mem.mp z).2 e
  · rw [if_neg e, ← byc_count L k]
    unfold ot
    exact List.count_filter (decide_eq_true e)
/-- the others, kind by kind -/
def oks (L : List Int) : List Int := (byK (cn L)).filter fun z => decide (z ∉ cmn L)
theorem ot_eq (L : List Int) : ot L = (oks L).flatMap fun k => List.replicate (L.count k) k := by
  unfold ot byc oks
  generalize byK (cn L) = ks
  induction ks with
  | nil => rfl
  | cons k r ih =>
    rw [List.flatMap_cons, List.filter_append, ih]
    by_cases e : k ∈ cmn L
    · rw [List.filter_cons_of_neg (by simp [e]), List.filter_eq_nil_iff.mpr (fun z hz => by rw [(List.mem_replicate.mp hz).2]; simp [e])]
      rfl
    · rw [List.filter_cons_of_pos (by simp [e]), List.filter_eq_self.mpr (fun z hz => by rw [(List.mem_replicate.mp hz).2]; simp [e]), List.flatMap_cons]
theorem oks_nodup (L : List Int) : (oks L).Nodup := (byK_nodup L).filter _
theorem oks_desc (L : List Int) : (oks L).Pairwise fun a b => L.count b ≤ L.count a := by
  have hs := List.pairwise_mergeSort (le := byLe) byLe_trans byLe_total (cn L)
  have h1 : (byK (cn L)).Pairwise fun a b => L.count b ≤ L.count a := by
    unfold byK
    refine List.Pairwise.map _ (R := fun p q : Int × Int => L.count q.1 ≤ L.count p.1) (fun _ _ h => h) ?_
    refine List.Pairwise.imp_of_mem ?_ hs
    intro p q hp hq h
    have e1 := (mem_cn.mp ((List.mergeSort_perm (cn L) byLe).mem_iff.mp hp)).2
    have e2 := (mem_cn.mp ((List.mergeSort_perm (cn L) byLe).mem_iff.mp hq)).2
    unfold byLe at h
    rw [decide_eq_true_eq] at h
    omega
  exact h1.filter _
theorem flat_const {f : Int → Nat} {c : Nat} : ∀ s : List Int, (∀ j ∈ s, f j = c) → (s.flatMap fun j => List.replicate (f j) j).length = s.length * c
  | [], _ => by simp
  | j :: r, h => by
    rw [List.flatMap_cons, List.length_append, List.length_replicate, flat_const r fun z hz => h z (List.mem_cons_of_mem _ hz), h j List.mem_cons_self, List.length_cons, Nat.succ_mul, Nat.add_comm]
theorem ot_run {L : List Int} {k : Int} (h : k ∈ ot L) : ∃ A C, ot L = A ++ List.replicate (L.count k) k ++ C ∧ k ∉ A ∧ k ∉ C ∧ (L.count k + 1 = mNat L → ∃ s, A.length = s * (mNat L - 1)) := by
  have hk : k ∈ oks L := by
    rw [ot_eq] at h
    obtain ⟨j, hj, hz⟩ := List.mem_flatMap.mp h
    rw [(List.mem_replicate.mp hz).2]
    exact hj
  obtain ⟨s, t, e⟩ := List.append_of_mem hk
  have nd := oks_nodup L
  have ds := oks_desc L
  have ht : ∀ j ∈ oks L, j ∈ ot L := fun j hj => by
    rw [ot_eq]
    refine List.mem_flatMap.mpr ⟨j, hj, List.mem_replicate.mpr ⟨?_, rfl⟩⟩
    have h2 : j ∈ L := byK_mem.mp (List.mem_filter.mp hj).1
    have := List.one_le_count_iff.mpr h2
    omega
  rw [e] at nd ds
  obtain ⟨_, n2, n3⟩ := List.nodup_append.mp nd
  obtain ⟨_, _, d3⟩ := List.pairwise_append.mp ds
  refine ⟨s.flatMap fun j => List.replicate (L.count j) j, t.flatMap fun j => List.replicate (L.count j) j, ?_, ?_, ?_, fun hm => ⟨s.length, ?_⟩⟩
  · rw [ot_eq, e, List.flatMap_append, List.flatMap_cons, List.append_assoc]
  · intro z
    obtain ⟨j, hj, hz⟩ := List.mem_flatMap.mp z
    exact n3 k (by rw [(List.mem_replicate.mp hz).2]; exact hj) k List.mem_cons_self rfl
  · intro z
    obtain ⟨j, hj, hz⟩ := List.mem_flatMap.mp z
    exact (List.nodup_cons.mp n2).1 (by rw [(List.mem_replicate.mp hz).2]; exact hj)
  · have hall : ∀ j ∈ s, L.count j = mNat L - 1 := fun j hj => by
      have h1 := d3 j hj k List.mem_cons_self
      have h2 := ot_small (ht j (by rw [e]; exact List.mem_append_left _ hj))
      omega
    exact flat_const s hall
theorem ot_nil {L : List Int} (h : mNat L ≤ 1) : ot L = [] := by
  refine List.eq_nil_iff_forall_not_mem.mpr fun k hk => ?_
  have h1 := ot_small hk
  have h2 := List.one_le_count_iff.mpr (ot_mem.mp hk).1
  omega
theorem mNat_pos {L : List Int} (h : L ≠ []) : 1 ≤ mNat L := by
  obtain ⟨k, hk, e⟩ := most_mem h
  have := List.one_le_count_iff.mpr hk
  have := mNat_eq L
  omega
theorem blks_len (L : List Int) : (blks L).length = mNat L := by
  unfold blks
  rw [dealG_len, List.length_replicate]
/-- the j-th block -/
def bl (L : List Int) (j : Nat) : List Int := cmn L ++ ((List.range (ot L).length).filter fun a => decide (a % (mNat L - 1) = j)).map fun a => (ot L).getD a 0
theorem blks_at {L : List Int} {j : Nat} (hj : j < mNat L - 1) : (blks L)[j]? = some (bl L j) := by
  unfold blks bl
  rw [dealG_at _ _ (by omega) (by rw [List.length_replicate]; omega) _ _ hj, List.getD_eq_getElem?_getD, List.getElem?_replicate, if_pos (by omega)]
  rfl
theorem blks_last {L : List Int} (h : L ≠ []) : (blks L)[mNat L - 1]? = some (cmn L) := by
  have hp := mNat_pos h
  by_cases e : mNat L - 1 = 0
  · unfold blks
    rw [ot_nil (by omega)]
    show (List.replicate (mNat L) (cmn L))[mNat L - 1]? = _
    rw [List.getElem?_replicate, if_pos (by omega)]
  · unfold blks
    rw [dealG_off _ _ (by omega) _ _ (Nat.le_refl _), List.getElem?_replicate, if_pos (by omega)]
theorem bl_len {L : List Int} {j : Nat} (hj : j < mNat L - 1) : (bl L j).length = (cmn L).length + ((ot L).length / (mNat L - 1) + (if j < (ot L).length % (mNat L - 1) then 1 else 0)) := by
  unfold bl
  rw [List.length_append, List.length_map, pick_len hj]
theorem bl_get {L : List Int} {j x : Nat} {k : Int} (hj : j < mNat L - 1) (h : (bl L j)[x]? = some k) : (x < (cmn L).length ∧ (cmn L)[x]? = some k) ∨
    ∃ a, a % (mNat L - 1) = j ∧ x = (cmn L).length + a / (mNat L - 1) ∧ (ot L)[a]? = some k := by
  unfold bl at h
  by_cases e : x < (cmn L).length
  · rw [List.getElem?_append_left e] at h
    exact .inl ⟨e, h⟩
  · rw [List.getElem?_append_right (by omega), List.getElem?_map] at h
    cases e2 : ((List.range (ot L).length).filter fun a => decide (a % (mNat L - 1) = j))[x - (cmn L).length]? with
    | none => rw [e2] at h; cases h
    | some a =>
      rw [e2] at h
      obtain ⟨h1, h2, h3⟩ := pick_get hj _ e2
      exact .inr ⟨a, h1, by omega, by rw [getD_get? h3]; exact h⟩
theorem blks_flat (L : List Int) (h : L ≠ []) : (blks L).flatten.Perm L := by
  have h1 : (blks L).flatten.Perm ((List.replicate (mNat L) (cmn L)).flatten ++ ot L) := by
    by_cases e : mNat L - 1 = 0
    · unfold blks
      rw [ot_nil (by omega), List.append_nil]
      exact .refl _
    · have := dealG_flat (List.replicate (mNat L) (cmn L)) (ot L) (M := mNat L - 1) (by omega) (by rw [List.length_replicate]; omega) (ot L).length (Nat.le_refl _)
      rw [List.take_length] at this
      exact this
  refine h1.trans (List.perm_iff_count.mpr fun k => ?_)
  have hr : ∀ n : Nat, ((List.replicate n (cmn L)).flatten).count k = n * (cmn L).count k := by
    intro n
    induction n with
    | zero => simp
    | succ n ih => rw [List.replicate_succ, List.flatten_cons, List.count_append, ih, Nat.succ_mul, Nat.add_comm]
  rw [List.count_append, hr, ot_count]
  by_cases e : k ∈ cmn L
  · rw [if_pos e, List.Nodup.count (cmn_nodup L), if_pos e]
    have := (cmn_iff.mp e).2
    have := mNat_eq L
    omega
  · rw [if_neg e, List.count_eq_zero.mpr e]
    omega
/-! places in lists joined -/
theorem flat_get : ∀ {X : List (List Int)} {p : Nat} {k : Int}, X.flatten[p]? = some k → ∃ j Y x, X[j]? = some Y ∧ Y[x]? = some k ∧ p = (X.take j).flatten.length + x
  | [], p, k, h => by simp at h
  | Z :: X, p, k, h => by
    rw [List.flatten_cons] at h
    by_cases e : p < Z.length
    · rw [List.getElem?_append_left e] at h
      exact ⟨0, Z, p, rfl, h, by simp⟩
    · rw [List.getElem?_append_right (by omega)] at h
      obtain ⟨j, Y, x, h1, h2, h3⟩ := flat_get h
      refine ⟨j + 1, Y, x, h1, h2, ?_⟩
      rw [List.take_succ_cons, List.flatten_cons, List.length_append]
      omega
theorem take_len {X : List (List Int)} {j : Nat} {Y : List Int} (h : X[j]? = some Y) : (X.take (j + 1)).flatten.length = (X.take j).flatten.length + Y.length := by
  rw [List.take_add_one, h, List.flatten_append, List.length_append]
  simp
theorem take_far {X : List (List Int)} {d j : Nat} (m : Nat) (h : ∀ i, j ≤ i → i < j + m → ∃ Y, X[i]? = some Y ∧ d ≤ Y.length) : (X.take j).flatten.length + m * d ≤ (X.take (j + m)).flatten.length := by
  induction m with
  | zero => simp
  | succ m ih =>
    obtain ⟨Y, e, hY⟩ := h (j + m) (by omega) (by omega)
    have h1 := ih fun i h1 h2 => h i h1 (by omega)
    have h2 := take_len e
    rw [Nat.succ_mul, show j + (m + 1) = j + m + 1 by omega]
    omega
theorem take_mono {X : List (List Int)} {j j' : Nat} {Y : List Int} (h : X[j]? = some Y) (hj : j < j') : (X.take j).flatten.length + Y.length ≤ (X.take j').flatten.length := by
  have h1 := take_len h
  have h2 : X.take j' = X.take (j + 1) ++ (X.take j').drop (j + 1) := by
    conv => lhs; rw [← List.take_append_drop (j + 1) (X.take j')]
    rw [List.take_take, Nat.min_eq_left (by omega)]
  rw [h2, List.flatten_append, List.length_append]
  omega
/-- the pieces of the row -/
def pcs (L : List Int) (d : Nat) : List (List Int) := ((blks L).take (mNat L - 1)).map (padd d) ++ [cmn L]
theorem rowS_pcs (L : List Int) (d : Nat) : rowS L d = (pcs L d).flatten := by
  unfold rowS pcs
  rw [List.flatten_append, List.flatMap_def]
  simp
theorem pcs_at {L : List Int} {d j : Nat} (hj : j < mNat L - 1) : (pcs L d)[j]? = some (padd d (bl L j)) := by
  unfold pcs
  have hl : (((blks L).take (mNat L - 1)).map (padd d)).length = mNat L - 1 := by rw [List.length_map, List.length_take, blks_len]; omega
  rw [List.getElem?_append_left (by omega), List.getElem?_map, List.getElem?_take_of_lt hj, blks_at hj]
  rfl
theorem pcs_last (L : List Int) (d : Nat) : (pcs L d)[mNat L - 1]? = some (cmn L) := by
  unfold pcs
  have hl : (((blks L).take (mNat L - 1)).map (padd d)).length = mNat L - 1 := by rw [List.length_map, List.length_take, blks_len]; omega
  rw [List.getElem?_append_right (by omega), hl, Nat.sub_self]
  rfl
theorem pcs_len (L : List Int) (d : Nat) : (pcs L d).length = mNat L - 1 + 1 := by
  unfold pcs
  rw [List.length_append, List.length_map, List.length_take, blks_len]
  show _ + 1 = _ + 1
  omega
theorem padd_len (d : Nat) (b : List Int) : (padd d b).length = max b.length d := by
  unfold padd
  rw [List.length_append, List.length_replicate]
  omega
theorem padd_get {d x : Nat} {b : List Int} {k : Int} (h : (padd d b)[x]? = some k) (hk : k ≠ -1) : b[x]? = some k := by
  unfold padd at h
  by_cases e : x < b.length
  · rw [List.getElem?_append_left e] at h
    exact h
  · rw [List.getElem?_append_right (by omega), List.getElem?_replicate] at h
    split at h
    · exact absurd (Option.some.inj h).symm hk
    · cases h
/-- a thing at its place: by a commonest kind, or by its turn among the others -/
theorem row_get {L : List Int} {d p : Nat} {k : Int} (hk : k ≠ -1) (h : (rowS L d)[p]? = some k) : ∃ j x, j ≤ mNat L - 1 ∧ p = ((pcs L d).take j).flatten.length + x ∧ (∃ Y, (pcs L d)[j]? = some Y ∧ x < Y.length) ∧
    ((x < (cmn L).length ∧ (cmn L)[x]? = some k) ∨ (j < mNat L - 1 ∧ ∃ a, a % (mNat L - 1) = j ∧ x = (cmn L).length + a / (mNat L - 1) ∧ (ot L)[a]? = some k)) := by
  rw [rowS_pcs] at h
  obtain ⟨j, Y, x, h1, h2, h3⟩ := flat_get h
  have hj : j < (pcs L d).length := (List.getElem?_eq_some_iff.mp h1).1
  have hx : x < Y.length := (List.getElem?_eq_some_iff.mp h2).1
  rw [pcs_len] at hj
  refine ⟨j, x, by omega, h3, ⟨Y, h1, hx⟩, ?_⟩
  by_cases e : j < mNat L - 1
  · rw [pcs_at e] at h1
    obtain rfl := Option.some.inj h1
    rcases bl_get e (padd_get h2 hk) with h4 | h4
    · exact .inl h4
    · exact .inr ⟨e, h4⟩
  · obtain rfl : j = mNat L - 1 := by omega
    rw [pcs_last] at h1
    obtain rfl := Option.some.inj h1
    exact .inl ⟨hx, h2⟩
theorem nodup_idx {l : List Int} (nd : l.Nodup) {x y : Nat} {k : Int} (h1 : l[x]? = some k) (h2 : l[y]? = some k) : x = y := by
  obtain ⟨hx, e1⟩ := List.getElem?_eq_some_iff.mp h1
  obtain ⟨hy, e2⟩ := List.getElem?_eq_some_iff.mp h2
  exact (List.getElem_inj (h₀ := hx) (h₁ := hy) nd).mp (e1.trans e2.symm)
theorem row_far {L : List Int} {d p p' : Nat} {k : Int} (hd : 1 ≤ d) (hk : k ≠ -1) (hp : p < p') (h : (rowS L d)[p]? = some k) (h' : (rowS L d)[p']? = some k) : d ≤ p' - p := by
  obtain ⟨j, x, hj, e, ⟨Y, hY, hxY⟩, c⟩ := row_get hk h
  obtain ⟨j', x', hj', e', ⟨Y', hY', hxY'⟩, c'⟩ := row_get hk h'
  have hjj : j ≤ j' := by
    refine Nat.le_of_not_lt fun z => ?_
    have := take_mono hY' z
    omega
  have far : ((pcs L d).take j).flatten.length + (j' - j) * d ≤ ((pcs L d).take j').flatten.length := by
    have := take_far (X := pcs L d) (d := d) (j := j) (j' - j) fun i h1 h2 => ⟨_, pcs_at (show i < mNat L - 1 by omega), by rw [padd_len]; omega⟩
    rw [show j + (j' - j) = j' by omega] at this
    exact this
  have one : j < j' → d ≤ (j' - j) * d := fun z => by
    have := Nat.mul_le_mul_right d (show 1 ≤ j' - j by omega)
    omega
  have top_ot : ∀ {x a : Nat}, (cmn L)[x]? = some k → (ot L)[a]? = some k → False := fun h1 h2 => (ot_mem.mp (List.mem_of_getElem? h2)).2 (List.mem_of_getElem? h1)
  rcases c with ⟨cx, ck⟩ | ⟨jM, a, a1, a2, a3⟩
  · rcases c' with ⟨cx', ck'⟩ | ⟨jM', a', _, _, a3'⟩
    · obtain rfl := nodup_idx (cmn_nodup L) ck ck'
      have : j < j' := by
        refine Nat.lt_of_le_of_ne hjj fun z => ?_
        subst z
        omega
      have := one this
      omega
    · exact (top_ot ck a3').elim
  · rcases c' with ⟨cx', ck'⟩ | ⟨jM', a', a1', a2', a3'⟩
    · exact (top_ot ck' a3).elim
    · have hko := List.mem_of_getElem? a3
      obtain ⟨A, C, eo, hA, hC, hmul⟩ := ot_run hko
      have hsm := ot_small hko
      generalize hM : mNat L - 1 = M at *
      have hM0 : 0 < M := by omega
      have n1 : a' < a + L.count k := run_near eo hA hC a3 a3'
      have n2 : a < a' + L.count k := run_near eo hA hC a3' a3
      have da := Nat.div_add_mod a M
      have da' := Nat.div_add_mod a' M
      rw [a1] at da
      rw [a1'] at da'
      generalize a / M = q at *
      generalize a' / M = q' at *
      -- the turns
      by_cases eq : q = q'
      · subst eq
        have : j < j' := by
          refine Nat.lt_of_le_of_ne hjj fun z => ?_
          subst z
          omega
        have := one this
        omega
      · have hlt : q' < q := by
          refine Nat.lt_of_not_le fun z => ?_
          have hq : q + 1 ≤ q' := by omega
          have := Nat.mul_le_mul_left M hq
          rw [Nat.mul_succ] at this
          omega
        have hq : q = q' + 1 := by
          refine Classical.byContradiction fun z => ?_
          have hq : q' + 2 ≤ q := by omega
          have := Nat.mul_le_mul_left M hq
          have e3 : M * (q' + 2) = M * q' + M + M := by rw [Nat.mul_succ, Nat.mul_succ]
          omega
        subst hq
        rw [Nat.mul_succ] at da
        -- a wrap: the run is shorter than the blocks
        have hc : L.count k + 1 ≠ mNat L := fun z => by
          obtain ⟨s, hs⟩ := hmul z
          clear hmul
          -- places within the run
          have w1 : A.length ≤ a := by
            refine Nat.le_of_not_lt fun y => hA ?_
            rw [eo, List.append_assoc, List.getElem?_append_left y] at a3
            exact List.mem_of_getElem? a3
          have w2 : A.length ≤ a' := by
            refine Nat.le_of_not_lt fun y => hA ?_
            rw [eo, List.append_assoc, List.getElem?_append_left y] at a3'
            exact List.mem_of_getElem? a3'
          have w3 : a < A.length + L.count k := by
            refine Nat.lt_of_not_le fun y => hC ?_
            rw [eo, List.getElem?_append_right (by rw [List.length_append, List.length_replicate]; exact y)] at a3
            exact List.mem_of_getElem? a3
          have hcM : L.count k = M := by omega
          rw [hs] at w1 w2 w3
          rw [Nat.mul_comm s M] at w1 w2 w3
          have k1 : s ≤ q' := by
            refine Nat.le_of_not_lt fun y => ?_
            have := Nat.mul_le_mul_left M (show q' + 1 ≤ s by omega)
            rw [Nat.mul_succ] at this
            omega
          have := Nat.mul_le_mul_left M k1
          omega
        clear hmul
        have hj2 : j + 2 ≤ j' := by omega
        have := Nat.mul_le_mul_right d (show 2 ≤ j' - j by omega)
        omega
theorem nogap_padd {d : Nat} {b : List Int} (h : ∀ z ∈ b, z ≠ -1) : nogap (padd d b) = b := by
  unfold nogap padd
  rw [List.filter_append, List.filter_eq_self.mpr (fun z hz => decide_eq_true (h z hz)), List.filter_eq_nil_iff.mpr (fun z hz => by rw [(List.mem_replicate.mp hz).2]; decide), List.append_nil]
theorem blks_eq {L : List Int} (h : L ≠ []) : blks L = (blks L).take (mNat L - 1) ++ [cmn L] := by
  have hp := mNat_pos h
  have hl := blks_len L
  conv => lhs; rw [← List.take_append_drop (mNat L - 1) (blks L)]
  congr 1
  have e := blks_last h
  rw [List.drop_eq_getElem_cons (by omega), List.drop_of_length_le (by omega)]
  rw [List.getElem?_eq_getElem (by omega)] at e
  rw [Option.some.inj e]
theorem rowS_nogap {L : List Int} (d : Nat) (hz : ∀ z ∈ L, z ≠ -1) : (nogap (rowS L d)).Perm L := by
  by_cases h : L = []
  · subst h
    have e1 : cmn [] = [] := by simp [cmn, cn, srt, tally]
    have e2 : mNat [] = 0 := by unfold mNat; rw [most_nil]; rfl
    unfold rowS
    rw [e1, e2]
    simp [nogap]
  · refine List.Perm.trans ?_ (blks_flat L h)
    have hb : ∀ z, z ∈ (blks L).flatten ↔ z ∈ L := fun z => (blks_flat L h).mem_iff
    have e := blks_eq h
    have ht : ∀ z ∈ cmn L, z ≠ -1 := fun z hz' => hz z (cmn_iff.mp hz').1
    have hbl : ∀ b ∈ blks L, ∀ z ∈ b, z ≠ -1 := fun b hb' z hz' => hz z ((hb z).mp (List.mem_flatten.mpr ⟨b, hb', hz'⟩))
    have e3 : nogap (rowS L d) = (blks L).flatten := by
      rw [e, List.flatten_append]
      unfold rowS nogap
      rw [List.filter_append, List.filter_eq_self.mpr (fun z hz => decide_eq_true (ht z hz))]
      congr 1
      · have : ∀ X : List (List Int), (∀ b ∈ X, ∀ z ∈ b, z ≠ -1) → (X.flatMap (padd d)).filter (fun z => decide (z ≠ -1)) = X.flatten := by
          intro X hX
          induction X with
          | nil => rfl
          | cons b r ih =>
            rw [List.flatMap_cons, List.filter_append, ih fun c hc => hX c (List.mem_cons_of_mem _ hc), List.flatten_cons]
            congr 1
            exact nogap_padd (hX b List.mem_cons_self)
        exact this _ fun b hb' => hbl b (List.mem_of_mem_take hb')
      · simp
    rw [e3]
/-- with a gap each block is as long as told -/
theorem rowS_gap {L : List Int} {d : Nat} (hz : ∀ z ∈ L, z ≠ -1) (hg : -1 ∈ rowS L d) : (rowS L d).length = (mNat L - 1) * d + (cmn L).length ∧ ((cmn L).length < d) := by
  have hne : L ≠ [] := fun z => by
    subst z
    have e1 : cmn [] = [] := by simp [cmn, cn, srt, tally]
    have e2 : mNat [] = 0 := by unfold mNat; rw [most_nil]; rfl
    unfold rowS at hg
    rw [e1, e2] at hg
    simp at hg
  unfold rowS at hg
  rcases List.mem_append.mp hg with hg | hg
  case inr => exact absurd rfl (hz _ (cmn_iff.mp hg).1)
  obtain ⟨b, hb, hm⟩ := List.mem_flatMap.mp hg
  obtain ⟨j, hj, ej⟩ := List.getElem_of_mem hb
  have hj' : j < mNat L - 1 := by rw [List.length_take] at hj; omega
  have hb2 : b = bl L j := by
    have := blks_at hj'
    rw [List.getElem_take] at ej
    rw [List.getElem?_eq_getElem (by rw [blks_len]; omega), ej] at this
    exact Option.some.inj this
  have hbd : b.length < d := by
    refine Nat.lt_of_not_le fun z => ?_
    unfold padd at hm
    rw [show d - b.length = 0 by omega, List.replicate_zero, List.append_nil] at hm
    exact absurd rfl (hz _ ((blks_flat L hne).mem_iff.mp (List.mem_flatten.mpr ⟨b, List.mem_of_mem_take hb, hm⟩)))
  have hl := bl_len hj'
  have hlo : (cmn L).length ≤ (bl L j).length := by rw [hl]; exact Nat.le_add_right _ _
  rw [hb2] at hbd
  have all : ∀ i, i < mNat L - 1 → (padd d (bl L i)).length = d := fun i hi => by
    rw [padd_len]
    have := bl_len hi
    have : (bl L i).length ≤ (bl L j).length + 1 := by
      rw [this, hl]
      split <;> split <;> omega
    omega
  refine ⟨?_, by omega⟩
  have key : ∀ n, n ≤ mNat L - 1 → ((pcs L d).take n).flatten.length = n * d := by
    intro n
    induction n with
    | zero => intro _; simp
    | succ n ih =>
      intro hn
      rw [take_len (pcs_at (by omega)), ih (by omega), all n (by omega), Nat.succ_mul]
  rw [rowS_pcs]
  have h1 := take_len (pcs_last L d)
  rw [key _ (Nat.le_refl _), List.take_of_length_le (by rw [pcs_len]; omega)] at h1
  exact h1
theorem rowS_full {L : List Int} {d : Nat} (hz : ∀ z ∈ L, z ≠ -1) (hg : -1 ∉ rowS L d) : (rowS L d).length = L.length := by
  have h1 := (rowS_nogap d hz).length_eq
  have h2 : nogap (rowS L d) = rowS L d := List.filter_eq_self.mpr fun z hz' => decide_eq_true fun e => hg (by rw [← e]; exact hz')
  rw [h2] at h1
  exact h1
theorem rowS_shows {L : List Int} {d : Nat} (hd : 1 ≤ d) (hz : ∀ z ∈ L, z ≠ -1) : showsS (rowS L d) L d = true := by
  unfold showsS
  rw [Bool.and_eq_true, Bool.and_eq_true, Bool.or_eq_true]
  refine ⟨decide_eq_true (srt_eq_iff.mpr (rowS_nogap d hz)), spB_of fun i j hij hj e hk => ?_, ?_⟩
  · have h1 := getD_get? (L := rowS L d) (i := i) (by omega)
    have h2 := getD_get? hj
    rw [e] at h1
    have := row_far hd hk hij h1 h2
    omega
  · by_cases hg : -1 ∈ rowS L d
    · have h1 := (rowS_gap hz hg).1
      refine .inr (decide_eq_true ?_)
      rw [h1]
      have hne : L ≠ [] := fun z => by
        subst z
        have e1 : cmn [] = [] := by simp [cmn, cn, srt, tally]
        have e2 : mNat [] = 0 := by unfold mNat; rw [most_nil]; rfl
        unfold rowS at hg
        rw [e1, e2] at hg
        simp at hg
      have hp := mNat_pos hne
      have e := mNat_eq L
      rw [← e, Int.natCast_add, Int.natCast_mul, Int.natCast_sub hp]
      rfl
    · exact .inl (decide_eq_true (rowS_full hz hg))
/-- of two places: a gap just where no row without alike neighbours is -/
theorem rowS_two {L : List Int} (hz : ∀ z ∈ L, z ≠ -1) : -1 ∈ rowS L 2 ↔ (L.length : Int) + 1 < 2 * mostI L := by
  have e := mNat_eq L
  constructor
  · intro hg
    obtain ⟨h1, h2⟩ := rowS_gap hz hg
    have h3 := (rowS_nogap 2 hz).length_eq
    have h4 : (nogap (rowS L 2)).length < (rowS L 2).length := by
      refine Nat.lt_of_le_of_ne (List.length_filter_le _ _) fun z => ?_
      have := List.length_filter_eq_length_iff.mp z (-1) hg
      simp at this
    have h5 := cmn_len L
    omega
  · intro h
    refine Classical.byContradiction fun hg => ?_
    have h1 := rowS_full hz hg
    have hne : L ≠ [] := fun z => by
      subst z
      rw [most_nil] at h
      have : (([] : List Int).length : Int) = 0 := rfl
      omega
    have ht := cmn_ne hne
    have h2 := take_far (X := pcs L 2) (d := 2) (j := 0) (mNat L - 1) fun i _ h2 => ⟨_, pcs_at (show i < mNat L - 1 by omega), by rw [padd_len]; omega⟩
    have h3 := take_len (pcs_last L 2)
    rw [List.take_of_length_le (by rw [pcs_len]; omega), ← rowS_pcs] at h3
    simp only [Nat.zero_add] at h2
    omega
theorem rowS_len {L : List Int} {d : Nat} (hz : ∀ z ∈ L, z ≠ -1) : (rowS L d).length ≤ L.length + L.length * d := by
  by_cases hg : -1 ∈ rowS L d
  · have h1 := (rowS_gap hz hg).1
    have h2 := cmn_len L
    have h3 : mNat L - 1 ≤ L.length := by
      have := most_le_len L
      have := mNat_eq L
      omega
    have := Nat.mul_le_mul_right d h3
    omega
  · have := rowS_full hz hg
    omega
theorem fm_nogap {F : List Int} : F.filterMap (fun z => if z ≠ -1 then some (V.int z) else none) = LI (nogap F) := by
  induction F with
  | nil => rfl
  | cons z r ih =>
    unfold nogap at ih ⊢
    by_cases e : z = -1
    · simp [e] at ih ⊢
      exact ih
    · simp [e] at ih ⊢
      exact ih
theorem dec_nm (z : Int) : (!decide (V.int z = V.int (-1))) = decide (z ≠ -1) := by
  by_cases e : z = -1
  · simp [e]
  · have : ¬ V.int z = V.int (-1) := fun y => e (V.int.inj y)
    simp [e, this]
theorem lastI_succ {F : List Int} {i : Nat} {k : Int} : lastI F (i + 1) k = if F.getD i 0 = k then some (i : Int) else lastI F i k := rfl
theorem flat_li (L : List Int) : (LI L).all flatV = true := by
  rw [List.all_eq_true]
  intro v hv
  obtain ⟨z, _, rfl⟩ := List.mem_map.mp hv
  rfl
theorem fm_ot {L : List Int} : (byc L).filterMap (fun z => if z ∈ cmn L then none else some (V.int z)) = LI (ot L) := by
  unfold ot
  generalize byc L = X
  induction X with
  | nil => rfl
  | cons z r ih =>
    by_cases e : z ∈ cmn L
    · simp [e] at ih ⊢
      exact ih
    · simp [e] at ih ⊢
      exact ih
theorem rowS_pre {L : List Int} {d i : Nat} (hi : i ≤ mNat L - 1) : (((blks L).take i).flatMap (padd d)).length ≤ (rowS L d).length := by
  unfold rowS
  have e : (blks L).take (mNat L - 1) = (blks L).take i ++ ((blks L).take (mNat L - 1)).drop i := by
    conv => lhs; rw [← List.take_append_drop i ((blks L).take (mNat L - 1))]
    rw [List.take_take, Nat.min_eq_left hi]
  rw [e, List.flatMap_append, List.length_append, List.length_append]
  omega
theorem rowS_nil (d : Nat) : rowS [] d = [] := by
  have e1 : cmn [] = [] := by simp [cmn, cn, srt, tally]
  have e2 : mNat [] = 0 := by unfold mNat; rw [most_nil]; rfl
  unfold rowS
  rw [e1, e2]
  rfl
/-! ### texts -/
abbrev FIG : Str := "0123456789"
def chr0 (w : Str) : Str := ⟨#[w.cps.toList.getD 0 0]⟩
def okW (w : Str) : Bool := decide (1 ≤ w.length) && (decide (w.length ≤ 7) && (decide (Txt.stripChars w FIG = "") && !(decide (chr0 w = "0") && decide (w ≠ "0"))))
def numW (w : Str) : Option Int := if okW w = true then some ((NumText.digitsVal (TL.tl w) : Nat) : Int) else none
theorem fig_in {c : Nat} (h : FIG.cps.contains c = true) : 48 ≤ c ∧ c ≤ 57 := by
  have e : FIG.cps = #[48, 49, 50, 51, 52, 53, 54, 55, 56, 57] := by decide +kernel
  rw [e] at h
  simp at h
  omega
theorem strip_digits {w : Str} (h : Txt.stripChars w FIG = "") : NumText.AllDigits (TL.tl w) := by
  unfold Txt.stripChars at h
  rw [stripBy_eq] at h
  obtain ⟨h1, h2, _⟩ := lo_facts FIG.cps.contains w
  obtain ⟨h4, h5, h6, _⟩ := hi_facts FIG.cps.contains w _ h1
  generalize stripHi FIG.cps.contains true w (stripLo FIG.cps.contains true w) = hi at *
  generalize stripLo FIG.cps.contains true w = lo at *
  have h7 : TL.tl (Builtin.Str.strSub w lo hi) = [] := by rw [h]; rfl
  rw [TL.tl_strSub] at h7
  have h8 := congrArg List.length h7
  rw [List.length_take, List.length_drop, ← TL.len_tl] at h8
  simp only [List.length_nil] at h8
  intro c hc
  obtain ⟨k, hk, e⟩ := List.getElem_of_mem hc
  have hk' : k < w.length := by rw [TL.len_tl]; exact hk
  have ge : w.cps.getD k 0 = c := by
    rw [← getD_list, List.getD_eq_getElem?_getD, List.getElem?_eq_getElem hk, e]
    rfl
  refine fig_in ?_
  rw [← ge]
  by_cases z : k < lo
  · exact h2 k z
  · exact h6 k (by omega) hk'
theorem okW_parts {w : Str} (h : okW w = true) : 1 ≤ w.length ∧ w.length ≤ 7 ∧ NumText.AllDigits (TL.tl w) ∧ (chr0 w = "0" → w = "0") := by
  unfold okW at h
  rw [Bool.and_eq_true, Bool.and_eq_true, Bool.and_eq_true, decide_eq_true_eq, decide_eq_true_eq, decide_eq_true_eq] at h
  obtain ⟨h1, h2, h3, h4⟩ := h
  refine ⟨h1, h2, strip_digits h3, fun e => ?_⟩
  refine Classical.byContradiction fun z => ?_
  rw [decide_eq_true e, decide_eq_true (show w ≠ "0" from z)] at h4
  cases h4
theorem okW_ne {w : Str} (h : okW w = true) : TL.tl w ≠ [] := fun z => by
  have h1 := (okW_parts h).1
  rw [TL.len_tl, z] at h1
  cases h1
theorem okW_int {w : Str} (h : okW w = true) : PySem.intText? w = some ((NumText.digitsVal (TL.tl w) : Nat) : Int) := by
  obtain ⟨h1, h2, h3, _⟩ := okW_parts h
  exact intText_digits h3 (okW_ne h) (by omega)
theorem digits_snoc (l : List Nat) (c : Nat) : NumText.digitsVal (l ++ [c]) = NumText.digitsVal l * 10 + (c - 48) := by
  unfold NumText.digitsVal
  rw [List.foldl_append]
  rfl
theorem nat_snoc {P : List Nat → Prop} (h0 : P []) (hs : ∀ l k, P l → P (l ++ [k])) (l : List Nat) : P l := by
  have : ∀ n (l : List Nat), l.length = n → P l := by
    intro n
    induction n with
    | zero => intro l e; rw [List.length_eq_zero_iff.mp e]; exact h0
    | succ n ih =>
      intro l e
      have hne : l ≠ [] := by intro z; rw [z] at e; cases e
      rw [← List.dropLast_concat_getLast hne]
      exact hs _ _ (ih _ (by rw [List.length_dropLast, e]; rfl))
  exact this _ l rfl
theorem num_back : ∀ l : List Nat, NumText.AllDigits l → l ≠ [] → (l.getD 0 0 = 48 → l = [48]) → TL.numL (NumText.digitsVal l) = l ∧ (l ≠ [48] → 1 ≤ NumText.digitsVal l) := by
  refine nat_snoc (P := fun l => NumText.AllDigits l → l ≠ [] → (l.getD 0 0 = 48 → l = [48]) → TL.numL (NumText.digitsVal l) = l ∧ (l ≠ [48] → 1 ≤ NumText.digitsVal l)) (fun _ h _ => absurd rfl h) (fun l c ih hd _ h0 => ?_)
  have hc := hd c (List.mem_append_right _ List.mem_cons_self)
  rw [digits_snoc]
  by_cases e : l = []
  · subst e
    have e0 : NumText.digitsVal [] = 0 := rfl
    rw [e0, Nat.zero_mul, Nat.zero_add, TL.numL_lt (by omega)]
    refine ⟨?_, fun h => ?_⟩
    · show [48 + (c - 48)] = [c]
      rw [show 48 + (c - 48) = c by omega]
    · refine Classical.byContradiction fun z => h ?_
      show [c] = [48]
      rw [show c = 48 by omega]
  · have hl0 : (l ++ [c]).getD 0 0 = l.getD 0 0 := by
      cases l with
      | nil => exact absurd rfl e
      | cons a r => rfl
    have hne : l.getD 0 0 ≠ 48 := fun z => by
      have h1 := h0 (hl0.trans z)
      have := congrArg List.length h1
      rw [List.length_append] at this
      exact e (List.length_eq_zero_iff.mp (by simpa using this))
    obtain ⟨i1, i2⟩ := ih (fun d hd' => hd d (List.mem_append_left _ hd')) e (fun z => absurd z hne)
    have i3 := i2 (fun z => hne (by rw [z]; rfl))
    refine ⟨?_, fun _ => by omega⟩
    rw [TL.numL_step (by omega), show (NumText.digitsVal l * 10 + (c - 48)) / 10 = NumText.digitsVal l by omega, i1, show 48 + (NumText.digitsVal l * 10 + (c - 48)) % 10 = c by omega]
def toS (i : Int) : Str := Str.ofString (toString i)
theorem okW_back {w : Str} (h : okW w = true) : toS ((NumText.digitsVal (TL.tl w) : Nat) : Int) = w := by
  obtain ⟨h1, h2, h3, h4⟩ := okW_parts h
  refine TL.ext_tl ?_
  show TL.tl (Str.ofString (toString ((NumText.digitsVal (TL.tl w) : Nat) : Int))) = _
  rw [TL.tl_num]
  refine (num_back _ h3 (okW_ne h) fun z => ?_).1
  have : chr0 w = "0" := by
    unfold chr0
    rw [show w.cps.toList.getD 0 0 = 48 from z]
    rfl
  rw [h4 this]
  rfl
theorem numW_some {w : Str} {n : Int} (h : numW w = some n) : okW w = true ∧ n = ((NumText.digitsVal (TL.tl w) : Nat) : Int) ∧ 0 ≤ n ∧ toS n = w := by
  unfold numW at h
  split at h
  · rename_i e
    have h := Option.some.inj h
    refine ⟨e, h.symm, by omega, ?_⟩
    rw [← h]
    exact okW_back e
  · cases h
theorem numW_int {w : Str} {n : Int} (h : numW w = some n) : PySem.intText? w = some n := by
  obtain ⟨h1, h2, _⟩ := numW_some h
  rw [okW_int h1, h2]
/-! the runs that words tell -/
def lastK (r : Tab) : Option Int := r.getLast?.map (·.1)
def stepR (o : Option Tab) (w : Str) : Option Tab := o.bind fun r =>
  if (Txt.partition w "*").2.1 = "" then none else (numW (Txt.partition w "*").2.2).bind fun m => if m = 0 then none else (numW (Txt.partition w "*").1).bind fun k => if k > 999 then none else if lastK r = some k then none else some (r ++ [(k, m)])
def parse (ws : List Str) : Option Tab := ws.foldl stepR (some [])
def sumT (r : Tab) : Int := (r.map (·.2)).sum
def runsOf (t : Str) : Option Tab := if t = "-" then some [] else (parse (Txt.split t " ")).bind fun r => if sumT r ≤ 1000000 then some r else none
def expand (T : Tab) : List Int := T.flatMap fun p => List.replicate p.2.toNat p.1
def wordOf (p : Int × Int) : Str := toS p.1 ++ "*" ++ toS p.2
def rstep (r : Tab) (k : Int) : Tab := match r.getLast? with
  | some p => if p.1 = k then r.dropLast ++ [(k, p.2 + 1)] else r ++ [(k, 1)]
  | none => [(k, 1)]
def runsH (L : List Int) : Tab := L.foldl rstep []
def writtenS (L : List Int) : Str := if L = [] then "-" else Txt.join " " ((runsH L).map wordOf)
theorem parse_snoc (ws : List Str) (w : Str) : parse (ws ++ [w]) = stepR (parse ws) w := by
  unfold parse
  rw [List.foldl_append]
  rfl
theorem stepR_none (ws : List Str) : ws.foldl stepR none = none := by
  induction ws with
  | nil => rfl
  | cons w r ih => exact ih
theorem parse_take {ws : List Str} {i : Nat} (h : parse (ws.take i) = none) : parse ws = none := by
  unfold parse at *
  rw [← List.take_append_drop i ws, List.foldl_append, h]
  exact stepR_none _
theorem par_eq : ∀ (l acc a b : List Nat), TL.par [42] acc l = some (a, b) → acc ++ l = a ++ ([42] ++ b)
  | [], _, _, _, h => by cases h
  | c :: r, acc, a, b, h => by
    cases e : TL.pre [42] (c :: r) with
    | true =>
      rw [TL.par_hit e] at h
      obtain ⟨rfl, rfl⟩ := Prod.mk.inj (Option.some.inj h)
      have ec : c = 42 := by
        unfold TL.pre at e
        simpa using e
      rw [ec]
      rfl
    | false =>
      rw [TL.par_miss e] at h
      have := par_eq r (acc ++ [c]) a b h
      rw [← this, List.append_assoc]
      rfl
theorem part_eq {w : Str} (h : (Txt.partition w "*").2.1 ≠ "") : w = (Txt.partition w "*").1 ++ "*" ++ (Txt.partition w "*").2.2 := by
  have e := TL.partition_par w "*" (by decide)
  cases ep : TL.par (TL.tl "*") [] (TL.tl w) with
  | none =>
    rw [ep] at e
    rw [e] at h
    exact absurd rfl h
  | some p =>
    obtain ⟨a, b⟩ := p
    rw [ep] at e
    rw [e]
    refine TL.ext_tl ?_
    rw [TL.tl_append, TL.tl_append, TL.tl_mk, TL.tl_mk, List.append_assoc]
    have := par_eq _ _ _ _ (show TL.par [42] [] (TL.tl w) = some (a, b) from ep)
    rw [List.nil_append] at this
    exact this
theorem spl_back : ∀ (l acc : List Nat), TL.joinL [32] (TL.spl [32] 0 acc l) = acc ++ l
  | [], acc => by rw [TL.spl_nil]; simp [TL.joinL]
  | c :: r, acc => by
    cases e : TL.pre [32] (c :: r) with
    | true =>
      rw [TL.spl_hit e]
      have ec : c = 32 := by
        unfold TL.pre at e
        simpa using e
      have ih := spl_back r []
      show TL.joinL [32] (acc :: TL.spl [32] 0 [] r) = _
      cases es : TL.spl [32] 0 [] r with
      | nil =>
        exfalso
        cases r with
        | nil => rw [TL.spl_nil] at es; cases es
        | cons d s =>
          cases e2 : TL.pre [32] (d :: s) with
          | true => rw [TL.spl_hit e2] at es; cases es
          | false =>
            rw [TL.spl_miss e2] at es
            have : ∀ (l a : List Nat), TL.spl [32] 0 a l ≠ [] := by
              intro l
              induction l with
              | nil => intro a z; rw [TL.spl_nil] at z; cases z
              | cons x y ih =>
                intro a z
                cases e3 : TL.pre [32] (x :: y) with
                | true => rw [TL.spl_hit e3] at z; cases z
                | false => rw [TL.spl_miss e3] at z; exact ih _ z
            exact this _ _ es
      | cons q s =>
        rw [es] at ih
        show acc ++ ([32] ++ TL.joinL [32] (q :: s)) = _
        rw [ih, ec]
        rfl
    | false =>
      rw [TL.spl_miss e, spl_back r (acc ++ [c]), List.append_assoc]
      rfl
theorem split_back (t : Str) : Txt.join " " (Txt.split t " ") = t := by
  refine TL.ext_tl ?_
  rw [TL.join_eq, TL.tl_join, TL.split_spl t " " (by decide) (TL.kind_ok (by decide +kernel))]
  exact spl_back _ []
theorem split_ne (t : Str) : Txt.split t " " ≠ [] := fun z => by
  have e := TL.split_spl t " " (by decide) (TL.kind_ok (by decide +kernel))
  rw [z] at e
  have : ∀ (l a : List Nat), TL.spl [32] 0 a l ≠ [] := by
    intro l
    induction l with
    | nil => intro a z; rw [TL.spl_nil] at z; cases z
    | cons x y ih =>
      intro a z
      cases e3 : TL.pre [32] (x :: y) with
      | true => rw [TL.spl_hit e3] at z; cases z
      | false => rw [TL.spl_miss e3] at z; exact ih _ z
  exact this _ _ e.symm
/-- runs whose neighbours are unlike -/
def Unl : Tab → Prop
  | [] => True
  | [_] => True
  | p :: q :: r => p.1 ≠ q.1 ∧ Unl (q :: r)
structure RunsOK (T : Tab) : Prop where
  pos : ∀ p ∈ T, 1 ≤ p.2
  rng : ∀ p ∈ T, 0 ≤ p.1 ∧ p.1 ≤ 999
  back : runsH (expand T) = T
theorem expand_snoc (T : Tab) (p : Int × Int) : expand (T ++ [p]) = expand T ++ List.replicate p.2.toNat p.1 := by
  unfold expand
  rw [List.flatMap_append]
  simp
theorem rstep_run (T : Tab) (k : Int) (h : lastK T ≠ some k) (m : Nat) : (List.replicate (m + 1) k).foldl rstep T = T ++ [(k, (m : Int) + 1)] := by
  induction m with
  | zero =>
    show rstep T k = T ++ [(k, ((0 : Nat) : Int) + 1)]
    unfold rstep
    cases e : T.getLast? with
    | none =>
      rw [List.getLast?_eq_none_iff.mp e]
      rfl
    | some p =>
      have : p.1 ≠ k := fun z => h (by unfold lastK; rw [e, ← z]; rfl)
      simp only [if_neg this]
      rfl
  | succ m ih =>
    rw [List.replicate_succ', List.foldl_append, ih]
    show rstep (T ++ [(k, (m : Int) + 1)]) k = _
    unfold rstep
    rw [List.getLast?_append]
    simp
theorem parse_ok {ws : List Str} : ∀ {T : Tab}, parse ws = some T → RunsOK T ∧ T.map wordOf = ws := by
  have key : ∀ n (ws : List Str), ws.length = n → ∀ T, parse ws = some T → RunsOK T ∧ T.map wordOf = ws := by
    intro n
    induction n with
    | zero =>
      intro ws e T h
      rw [List.length_eq_zero_iff.mp e] at h ⊢
      obtain rfl : [] = T := Option.some.inj h
      exact ⟨⟨(fun p hp => by cases hp), (fun p hp => by cases hp), rfl⟩, rfl⟩
    | succ n ih =>
      intro ws e T h
      have hne : ws ≠ [] := by intro z; rw [z] at e; cases e
      rw [← List.dropLast_concat_getLast hne] at h ⊢
      rw [parse_snoc] at h
      generalize ws.getLast hne = w at h ⊢
      have hl : ws.dropLast.length = n := by rw [List.length_dropLast, e]; rfl
      cases e1 : parse ws.dropLast with
      | none => rw [e1] at h; cases h
      | some r =>
        obtain ⟨ok, hw⟩ := ih _ hl r e1
        rw [e1] at h
        unfold stepR at h
        simp only [Option.bind_some] at h
        split at h
        · cases h
        · rename_i hs
          cases em : numW (Txt.partition w "*").2.2 with
          | none => rw [em] at h; cases h
          | some m =>
            rw [em] at h
            simp only [Option.bind_some] at h
            split at h
            · cases h
            · rename_i hm
              cases ek : numW (Txt.partition w "*").1 with
              | none => rw [ek] at h; cases h
              | some k =>
                rw [ek] at h
                simp only [Option.bind_some] at h
                split at h
                · cases h
                · rename_i hk
                  split at h
                  · cases h
                  · rename_i hlk
                    obtain rfl := Option.some.inj h
                    obtain ⟨_, _, m0, mb⟩ := numW_some em
                    obtain ⟨_, _, k0, kb⟩ := numW_some ek
                    refine ⟨⟨fun p hp => ?_, fun p hp => ?_, ?_⟩, ?_⟩
                    · rcases List.mem_append.mp hp with hp | hp
                      · exact ok.pos p hp
                      · rw [List.mem_singleton.mp hp]
                        show 1 ≤ m
                        omega
                    · rcases List.mem_append.mp hp with hp | hp
                      · exact ok.rng p hp
                      · rw [List.mem_singleton.mp hp]
                        exact ⟨k0, by show k ≤ 999; omega⟩
                    · rw [expand_snoc]
                      unfold runsH
                      rw [List.foldl_append, show (expand r).foldl rstep [] = r from ok.back]
                      obtain ⟨j, hj⟩ : ∃ j : Nat, m = (j : Int) + 1 := ⟨(m - 1).toNat, by omega⟩
                      show (List.replicate m.toNat k).foldl rstep r = r ++ [(k, m)]
                      rw [show m.toNat = j + 1 by omega, rstep_run r k hlk j, hj]
                    · rw [List.map_append, hw]
                      congr 1
                      show [toS k ++ "*" ++ toS m] = [w]
                      rw [mb, kb, ← part_eq hs]
  intro T h
  exact key _ ws rfl T h
theorem runsOf_ok {t : Str} {T : Tab} (h : runsOf t = some T) : RunsOK T ∧ sumT T ≤ 1000000 ∧ writtenS (expand T) = t := by
  unfold runsOf at h
  split at h
  · rename_i e
    obtain rfl : [] = T := Option.some.inj h
    refine ⟨⟨(fun p hp => by cases hp), (fun p hp => by cases hp), rfl⟩, by decide, ?_⟩
    rw [e]
    rfl
  · cases e1 : parse (Txt.split t " ") with
    | none => rw [e1] at h; cases h
    | some r =>
      rw [e1] at h
      simp only [Option.bind_some] at h
      split at h
      · rename_i hs
        obtain rfl := Option.some.inj h
        obtain ⟨ok, hw⟩ := parse_ok e1
        refine ⟨ok, hs, ?_⟩
        unfold writtenS
        have hne : expand r ≠ [] := fun z => by
          have := ok.back
          rw [z] at this
          have hr : r = [] := this.symm
          rw [hr] at hw
          exact split_ne t hw.symm
        rw [if_neg hne, ok.back, hw]
        exact split_back t
      · cases h
theorem expand_len (T : Tab) (h : ∀ p ∈ T, 1 ≤ p.2) : ((expand T).length : Int) = sumT T := by
  unfold expand sumT
  induction T with
  | nil => rfl
  | cons p r ih =>
    have h1 := h p List.mem_cons_self
    rw [List.flatMap_cons, List.length_append, List.length_replicate, List.map_cons, List.sum_cons, ← ih fun q hq => h q (List.mem_cons_of_mem _ hq)]
    omega
theorem expand_mem {T : Tab} {z : Int} (h : z ∈ expand T) : ∃ p ∈ T, p.1 = z := by
  obtain ⟨p, hp, hz⟩ := List.mem_flatMap.mp h
  exact ⟨p, hp, (List.mem_replicate.mp hz).2.symm⟩
section
variable {X : Cx}
theorem op_mul_str : OpR X (binaryOp .Mult) (fun x y H Q => ∃ a n, x = .str a ∧ y = .int n ∧ MulOk a n ∧ Q (.str (Txt.mul a n)) H) := by
  intro pins s σ H x y v u Q I rx ry h
  obtain ⟨a, n, rfl, rfl, hm, q⟩ := h
  obtain ⟨t, rfl⟩ := rx
  obtain ⟨t', rfl⟩ := ry
  exact SB.mul hm fun t2 k => ⟨.str _, H, I.tok k, ⟨t2, rfl⟩, q⟩
theorem passLN {X : Cx} : Passes (L2N.CX X.prog X.w) X E0 := fun _ _ _ _ _ _ _ h => by
  obtain ⟨_, _, _, _, _, _, _, _, _, _, _, _, z⟩ := h
  exact z.elim
end
theorem tups_last {K : PySem.W.Frag} {H : Hp} : ∀ {ts : List Addr} {T : Tab} {p : Int × Int}, TupsAt K H ts (T ++ [p]) → ∃ ts0 t, ts = ts0 ++ [t] ∧ TupsAt K H ts0 T ∧ SqT K H t [.int p.1, .int p.2]
  | _, [], p, h => by
    cases h with
    | cons h t =>
      cases t
      exact ⟨[], _, rfl, .nil, h⟩
  | _, q :: T, p, h => by
    cases h with
    | cons h t =>
      obtain ⟨ts0, u, e, h1, h2⟩ := tups_last t
      exact ⟨_ :: ts0, u, by rw [e]; rfl, .cons h h1, h2⟩
theorem last_app {T : Tab} {p : Int × Int} (h : T.getLast? = some p) : T = T.dropLast ++ [p] := by
  obtain ⟨hne, e⟩ := List.getLast?_eq_some_iff.mp h
  rw [e]
  simp
theorem log_small {n : Int} (h : n.natAbs ≤ 10000000) : n.natAbs.log2 < 1920 := by
  by_cases e : n.natAbs = 0
  · rw [e]
    decide
  · refine (Nat.log2_lt e).mpr (Nat.lt_of_le_of_lt h ?_)
    exact Nat.lt_of_lt_of_le (show 10000000 < 2 ^ 24 by decide) (Nat.pow_le_pow_right (by decide) (by decide))
theorem toS_len {n : Int} (h0 : 0 ≤ n) (h : n < 10000000) : (toS n).length ≤ 7 := by
  obtain ⟨k, rfl⟩ := Int.eq_ofNat_of_zero_le h0
  show (Str.ofString (toString ((k : Nat) : Int))).length ≤ 7
  rw [TL.len_tl, TL.tl_num]
  exact TL.numL_len (by decide) (by have : (10000000 : Nat) = 10 ^ 7 := by decide
                                    omega)
theorem str_add_len (a b : Str) : (a ++ b).length = a.length + b.length := by rw [TL.len_tl, TL.tl_append, List.length_append, ← TL.len_tl, ← TL.len_tl]
theorem wordOf_len {p : Int × Int} (h1 : 0 ≤ p.1 ∧ p.1 < 10000000) (h2 : 0 ≤ p.2 ∧ p.2 < 10000000) : (wordOf p).length ≤ 15 := by
  unfold wordOf
  rw [str_add_len, str_add_len]
  have e1 := toS_len h1.1 h1.2
  have e2 := toS_len h2.1 h2.2
  have e3 : ("*" : Str).length = 1 := by decide
  omega
theorem runsH_snoc (L : List Int) (k : Int) : runsH (L ++ [k]) = rstep (runsH L) k := by
  unfold runsH
  rw [List.foldl_append]
  rfl
/-- what runs are, of a heap -/
theorem runsH_ok (L : List Int) : (runsH L).length ≤ L.length ∧ (∀ p ∈ runsH L, p.1 ∈ L ∧ 1 ≤ p.2 ∧ p.2 ≤ L.length) ∧ lastK (runsH L) = L.getLast? := by
  refine snoc_ind (P := fun L => (runsH L).length ≤ L.length ∧ (∀ p ∈ runsH L, p.1 ∈ L ∧ 1 ≤ p.2 ∧ p.2 ≤ L.length) ∧ lastK (runsH L) = L.getLast?) ⟨Nat.le_refl _, (fun p hp => by cases hp), rfl⟩ (fun l k ih => ?_) L
  obtain ⟨h1, h2, h3⟩ := ih
  rw [runsH_snoc]
  have hlast : (l ++ [k]).getLast? = some k := by simp
  have up : ∀ p ∈ runsH l, p.1 ∈ l ++ [k] ∧ 1 ≤ p.2 ∧ p.2 ≤ (l ++ [k]).length := fun p hp => by
    obtain ⟨a, b, c⟩ := h2 p hp
    refine ⟨List.mem_append_left _ a, b, ?_⟩
    rw [List.length_append]
    show _ ≤ ((_ + 1 : Nat) : Int)
    omega
  have hk : k ∈ l ++ [k] := List.mem_append_right _ List.mem_cons_self
  have hle : (1 : Int) ≤ ((l ++ [k]).length : Nat) := by
    rw [List.length_append]
    show (1 : Int) ≤ ((_ + 1 : Nat) : Int)
    omega
  unfold rstep
  cases e : (runsH l).getLast? with
  | none =>
    refine ⟨by rw [List.length_append]; show 1 ≤ _ + 1; omega, fun p hp => ?_, by rw [hlast]; rfl⟩
    rw [List.mem_singleton.mp hp]
    exact ⟨hk, Int.le_refl 1, hle⟩
  | some q =>
    have ea := last_app e
    have hq : q ∈ runsH l := by rw [ea]; exact List.mem_append_right _ List.mem_cons_self
    by_cases e2 : q.1 = k
    · simp only [if_pos e2]
      refine ⟨?_, fun p hp => ?_, by rw [hlast]; unfold lastK; rw [List.getLast?_append]; rfl⟩
      · rw [List.length_append, List.length_append, List.length_dropLast]
        show _ - 1 + 1 ≤ _ + 1
        omega
      · rcases List.mem_append.mp hp with hp | hp
        · exact up p (List.dropLast_subset _ hp)
        · rw [List.mem_singleton.mp hp]
          obtain ⟨_, b, c⟩ := h2 q hq
          refine ⟨hk, by show 1 ≤ q.2 + 1; omega, ?_⟩
          rw [List.length_append]
          show q.2 + 1 ≤ ((_ + 1 : Nat) : Int)
          omega
    · simp only [if_neg e2]
      refine ⟨?_, fun p hp => ?_, by rw [hlast]; unfold lastK; rw [List.getLast?_append]; rfl⟩
      · rw [List.length_append, List.length_append]
        show _ + 1 ≤ _ + 1
        omega
      · rcases List.mem_append.mp hp with hp | hp
        · exact up p hp
        · rw [List.mem_singleton.mp hp]
          exact ⟨hk, Int.le_refl 1, hle⟩
def numV (w : Str) : V := match numW w with | some n => .int n | none => .non
theorem sum_len {ws : List Str} {n : Nat} (h : ∀ w ∈ ws, w.length ≤ n) : (ws.map (·.length)).sum ≤ ws.length * n := by
  induction ws with
  | nil => simp
  | cons w r ih =>
    have h1 := h w List.mem_cons_self
    have h2 := ih fun x hx => h x (List.mem_cons_of_mem _ hx)
    rw [List.map_cons, List.sum_cons, List.length_cons, Nat.succ_mul]
    omega
theorem join_len {ws : List Str} {n : Nat} (h : ∀ w ∈ ws, w.length ≤ n) : (Txt.join " " ws).length ≤ ws.length * (n + 1) := by
  rw [TL.join_eq]
  induction ws with
  | nil => exact Nat.zero_le _
  | cons w r ih =>
    have h1 := h w List.mem_cons_self
    have h2 := ih fun x hx => h x (List.mem_cons_of_mem _ hx)
    rw [List.length_cons, Nat.succ_mul]
    cases r with
    | nil =>
      show w.length ≤ _
      omega
    | cons q s =>
      show (w ++ " " ++ Str.join " " (q :: s)).length ≤ _
      rw [str_add_len, str_add_len]
      have : (" " : Str).length = 1 := by decide
      omega
theorem dec_str (a b : Str) : decide (V.str a = V.str b) = decide (a = b) := by
  by_cases e : a = b
  · simp [e]
  · have : ¬ V.str a = V.str b := fun z => e (V.str.inj z)
    simp [e, this]
theorem numW_no {w : Str} (h : okW w = false) : numW w = none := by
  unfold numW
  rw [h]
  rfl
theorem numW_yes {w : Str} (h : okW w = true) : numW w = some ((NumText.digitsVal (TL.tl w) : Nat) : Int) := by
  unfold numW
  rw [if_pos h]
theorem chr_at {w : Str} (h : 1 ≤ w.length) : atI w.cps.toList 0 = some (w.cps.toList.getD 0 0) := by
  have h0 : 0 < w.cps.toList.length := by rw [← TL.len_tl]; omega
  have e : w.cps.toList[0]? = some (w.cps.toList.getD 0 0) := by
    rw [List.getD_eq_getElem?_getD, List.getElem?_eq_getElem h0]
    rfl
  unfold atI ixN
  rw [if_pos (by omega), if_pos (by omega)]
  exact e
theorem part_len (w : Str) : (Txt.partition w "*").1.length ≤ w.length ∧ (Txt.partition w "*").2.2.length ≤ w.length := by
  by_cases h : (Txt.partition w "*").2.1 = ""
  · have e := TL.partition_par w "*" (by decide)
    cases ep : TL.par (TL.tl "*") [] (TL.tl w) with
    | none =>
      rw [ep] at e
      rw [e]
      exact ⟨Nat.le_refl _, Nat.zero_le _⟩
    | some p =>
      obtain ⟨a, b⟩ := p
      rw [ep] at e
      rw [e] at h
      have h : ("*" : Str) = "" := h
      have := congrArg Str.length h
      exact absurd this (by decide)
  · have e := congrArg Str.length (part_eq h)
    rw [str_add_len, str_add_len] at e
    omega
theorem join_ge {w : Str} : ∀ {ws : List Str}, w ∈ ws → w.length ≤ (Txt.join " " ws).length := by
  intro ws h
  rw [TL.join_eq]
  induction ws with
  | nil => cases h
  | cons q r ih =>
    cases r with
    | nil =>
      rw [List.mem_singleton.mp h]
      exact Nat.le_refl _
    | cons z s =>
      show _ ≤ (q ++ " " ++ Str.join " " (z :: s)).length
      rw [str_add_len, str_add_len]
      rcases List.mem_cons.mp h with h | h
      · rw [h]; omega
      · have := ih h
        omega
theorem split_len {t w : Str} (h : w ∈ Txt.split t " ") : w.length ≤ t.length := by
  have := join_ge h
  rw [split_back] at this
  exact this
theorem parse_step {ws : List Str} {i : Nat} {r : Tab} (hi : i < ws.length) (h : parse (ws.take i) = some r) : parse (ws.take (i + 1)) = stepR (some r) ws[i] := by
  rw [List.take_add_one, List.getElem?_eq_getElem hi]
  show parse (_ ++ [ws[i]]) = _
  rw [parse_snoc, h]
theorem runs_fail {t : Str} {i : Nat} (ht : t ≠ "-") (h : parse ((Txt.split t " ").take i) = none) : runsOf t = none := by
  unfold runsOf
  rw [if_neg ht, parse_take h]
  rfl
theorem last_iffT {r : Tab} {p : Int × Int} (h : r.getLast? = some p) {k : Int} : lastK r = some k ↔ p.1 = k := by
  unfold lastK
  rw [h]
  simp
/-! ### a def without parameters -/
def sp0 (f : Hp → VK → XK → Prop) : Sp := fun vs H Q E => vs = [] ∧ f H Q E
theorem len0 {f : Hp → VK → XK → Prop} : ∀ vs H Q E, sp0 f vs H Q E → vs.length = 0 := fun _ _ _ _ ⟨e, _⟩ => by rw [e]; rfl
/-! ### lists of texts -/
abbrev LS (ws : List Str) : List V := ws.map V.str
def dS (ws : List Str) : PyData := .list (ws.map PyData.str)
theorem dpa_ls {K : PySem.W.Frag} {H : Hp} : ∀ L : List Str, DpAll K H (LS L) (L.map PyData.str)
  | [] => .nil
  | z :: r => .cons (.str z) (dpa_ls r)
theorem dp_ls {K : PySem.W.Frag} {H : Hp} {a : Addr} {L : List Str} (h : SqL K H a (LS L)) : Dp K H (.ref a) (dS L) := .lst h (dpa_ls L)
theorem lay_strs : ∀ L : List Str, (∀ w ∈ L, PyData.strOk w = true) → PyData.canLayAll0 (L.map PyData.str) = true
  | [], _ => by simp [PyData.canLayAll0]
  | z :: r, h => by
    have h1 := h z List.mem_cons_self
    have h2 := lay_strs r fun w hw => h w (List.mem_cons_of_mem _ hw)
    simp [PyData.canLayAll0, PyData.canLay0, h1, h2]
theorem dep_strs : ∀ L : List Str, PyData.depthAll (L.map PyData.str) ≤ 1
  | [] => by simp [PyData.depthAll]
  | z :: r => by
    have := dep_strs r
    simp [PyData.depthAll, PyData.depth]
    omega
theorem shaped_dS (L : List Str) (h : ∀ w ∈ L, PyData.strOk w = true) : SeqAt.shaped (dS L) = true := by
  have h1 := lay_strs L h
  have h2 := dep_strs L
  simp [SeqAt.shaped, dS, PyData.canLay0, PyData.depth, h1]
  omega
theorem eqv_dS_nil (L : List Str) : PyData.eqv (dS L) (dS []) = decide (L = []) := by
  cases L with
  | nil => simp [dS, PyData.eqv, PyData.eqvAll]
  | cons a r => simp [dS, PyData.eqv, PyData.eqvAll]
theorem wordOf_ok {p : Int × Int} (h1 : 0 ≤ p.1) (h2 : 0 ≤ p.2) : PyData.strOk (wordOf p) = true := by
  obtain ⟨a, b⟩ := p
  obtain ⟨m, rfl⟩ := Int.eq_ofNat_of_zero_le h1
  obtain ⟨n, rfl⟩ := Int.eq_ofNat_of_zero_le h2
  have e : TL.tl (wordOf ((m : Int), (n : Int))) = TL.numL m ++ [42] ++ TL.numL n := by
    unfold wordOf
    rw [TL.tl_append, TL.tl_append]
    show TL.tl (Str.ofString (toString ((m : Nat) : Int))) ++ _ ++ TL.tl (Str.ofString (toString ((n : Nat) : Int))) = _
    rw [TL.tl_num, TL.tl_num]
    rfl
  have key : ∀ c ∈ TL.tl (wordOf ((m : Int), (n : Int))), c < 0x110000 := by
    rw [e]
    intro c hc
    rcases List.mem_append.mp hc with hc | hc
    · rcases List.mem_append.mp hc with hc | hc
      · have := TL.numL_digits m c hc
        omega
      · rw [List.mem_singleton.mp hc]
        decide
    · have := TL.numL_digits n c hc
      omega
  unfold PyData.strOk
  rw [Array.all_eq_true']
  intro c hc
  exact decide_eq_true (key c (by unfold TL.tl; exact Array.mem_toList_iff.mpr hc))
/-! ### a def that is handed the exception which is handled -/
section
variable {X : Cx}
/-- isinstance(e, c), e the exception that is handled, of the class at D -/
def rIsP (K : PySem.W.Frag) (D a : Addr) : List V → Hp → VK → Prop := fun xs H Q => ∃ (c : V) (cv : Value) (b : Bool), L2.ExcC K D ∧ xs = [.ref a, c] ∧ ClsV c cv ∧ PySem.W.kitOne K (.ref D) cv = some b ∧ Q (.bl b) H
theorem zisP (K : PySem.W.Frag) {D : Addr} {pp : Addr × Obj} (hz : L2N.Zn (.ref D) none pp.2) (hf : ∃ vs, pp.2.data = .fields vs) (hm : pp ∈ X.pn) (h : X.K = K := by rfl) : CallR X (.builtin "isinstance") (rIsP K D pp.1) := by
  subst h
  intro pins s σ H xs us Q I r q
  obtain ⟨c, cv, b, C, rfl, hc, e, q⟩ := q
  cases r with
  | cons r1 r =>
  cases r with
  | cons r2 r =>
  cases r
  cases r1
  obtain rfl := hc.eq r2
  have got := (I.pin pp (List.mem_append_left _ hm)).1
  obtain ⟨⟨oc, od, oda, osl⟩, hx⟩ : ∃ o, o = pp.2 := ⟨_, rfl⟩
  rw [← hx] at got hz hf
  obtain ⟨vs, hv⟩ := hf
  obtain ⟨h1, h2, _⟩ := hz
  dsimp only at h1 h2 hv
  subst h1 h2 hv
  exact PySem.W.kia_one (PySem.W.handS_kitx_exc C.hg C.hk C.hs C.hd C.ha C.hn C.ht C.hm) I.kIn ⟨got, rfl, rfl, trivial⟩ e
    (fun z => nomatch z) fun tk => ⟨.bl b, H, I.kept (t' := tk) (fun _ _ z => z), rfl, q⟩
end
/-- the class of what is handled, and where it stands, go into the promise -/
structure FnE (P : Program) (w : World) (K : PySem.W.Frag) (mg : Str → Option Value) (base : Heap) (k : Nat) (f : Addr) (fd : FuncData) (ps : List Str) (sp : Addr → Addr → Sp) : Prop where
  len : ∀ D a vs H Q E, sp D a vs H Q E → vs.length = ps.length
  run : ∀ (pp : Addr × Obj) (D : Addr) (A : Around) (outer : List Env) (s : Shared) (H : Hp) (args : Args) (us : List Value) (vs : List V) (Q : VK) (E : XK),
    L2N.Zn (.ref D) none pp.2 → (∃ vs, pp.2.data = .fields vs) → L2H.Hot1 A pp → L2H.PinOk outer H s pp → L2H.RoomH k A → Env0 P w K mg base A outer s H →
    BindsTo s fd args (ps.zip us) → Vals vs us → sp D pp.1 vs H Q E → codeAny (model P w) A (.call (.ref f) args) (CR CX0 outer P w H s Q E) s
theorem FunD.okE {P : Program} {w : World} {K : PySem.W.Frag} {mg : Str → Option Value} {base : Heap} {x qual : Str} {params : Arguments} {body : List Stmt} {scope : Scope} {f : Addr} {fd : FuncData}
    {N ps : List Str} {k : Nat} {sp : Addr → Addr → Sp} (F : FunD K x qual params body scope [] [] f fd) (S : FnScope N ps scope) (len : ∀ D a vs H Q E, sp D a vs H Q E → vs.length = ps.length)
    (hbody : ∀ (pp : Addr × Obj) (D : Addr) (cdv : Value) (A : Around) (outer : List Env) (s : Shared) (H : Hp) (vs : List V) (Q : VK) (E : XK), L2N.Zn (.ref D) none pp.2 → (∃ vs, pp.2.data = .fields vs) →
      L2H.RoomH k (A.deeper (envOfC qual scope s.heap.objs.size f cdv)) → sp D pp.1 vs H Q E →
      ∃ t, PSs (L2H.cxH CX0 P w K mg base N qual scope f cdv A outer s H E pp) body t ∧ t { nx := fun _ H' => Q .non H', rt := Q } (L2.start N vs) H) :
    FnE P w K mg base (k + 1) f fd ps sp := by
  obtain ⟨oc, od, dV, kV, doc, pm, an, cdv, ct, osl, rfl, lk, hcd, _, _⟩ := F.ex
  constructor
  · exact len
  intro pp D A outer s H args us vs Q E hz hf hot pin room e0 bt rel hsp
  have olds : ∀ b o, base.get? b = some o → s.heap.get? b = some o := fun b o z => (e0.bs b o z).1
  have hK := e0.mod.kin.keeps olds
  have hlim := e0.mod.nolimit.keeps olds
  have kinds : ∀ y ∈ ps.zip us, scope.names.lookup y.1 = some .local ∨ (scope.names.lookup y.1 = some .cell ∧ ((cellsFrom (s.heap.objs.size + 1) scope.names []).lookup y.1).isSome = true) := by
    rintro ⟨n, v⟩ hy
    have hn : n ∈ ps := (List.of_mem_zip hy).1
    cases S.par n hn with
    | inl q => exact Or.inl q
    | inr q => exact Or.inr ⟨q, PySem.W.cellsFrom_some _ _ _ (Or.inl q)⟩
  refine codeAny_call_function room.depth (hK _ _ lk) rfl S.co S.gen rfl
    (PySem.W.codeRec_of hK hcd) (bt _ _ _ _ ?_)
  refine wpAny_newFunctionEnv_cells S.kind kinds (fun env he s1 x => ?_)
  subst he
  refine ⟨hlim.keeps x.toInCall.keep, codeAny_func ?_⟩
  obtain ⟨t, ht, hq⟩ := hbody pp D cdv A outer s H vs Q E hz hf (room.deeper _) hsp
  have I0 := L2H.inv_startH (CX := CX0) (E := E) (qual := qual) (f := f) (cd := cdv) S pin e0 (len _ _ _ _ _ _ hsp) rel x
  refine wpAny_mono (ht.run [] s1 _ H _ I0 hq) ?_ (fun _ _ z => z)
  intro fl s2 hs
  match fl, hs with
  | .ret u, hs =>
    obtain ⟨v, σ2, H2, J, rv, q⟩ := hs
    exact ⟨v, H2, J.os, J.bare, J.base, J.hok, rv, q⟩
  | .next, hs =>
    obtain ⟨σ2, H2, J, q⟩ := hs
    exact ⟨V.non, H2, J.os, J.bare, J.base, J.hok, rfl, q⟩
  | .brk, hs =>
    obtain ⟨_, _, _, q⟩ := hs
    exact q.elim
  | .cont, hs =>
    obtain ⟨_, _, _, q⟩ := hs
    exact q.elim
/-- such a def by its name -/
def DefE (P : Program) (w : World) (K : PySem.W.Frag) (mg : Str → Option Value) (base : Heap) (k : Nat) (x : Str) (ps : List Str) (sp : Addr → Addr → Sp) : Prop :=
  ∃ fd, FnE P w K mg base k (He.ga K x) fd ps sp ∧ Binds K fd ps [] ∧ PySem.W.keepIn K (.ref (He.ga K x)) = true ∧ mg x = some (.ref (He.ga K x))
/-- f(..) in a suite, f such a def: what is caught goes by its class -/
def tCallE (cls : Value) (d : Option Addr) (a : Addr) (sp : Addr → Addr → Sp) (t : TA) : TE := fun σ H Q => t σ H fun vs H1 => ∃ D, cls = .ref D ∧ d = none ∧ sp D a vs H1 Q fun _ _ _ => False
theorem pe_callE {X : Cx} {k : Nat} {x : Str} {ps : List Str} {sp : Addr → Addr → Sp} {q pos : Pos} {e : Expr} {es : List Expr} {t : TA} {a : Addr} {oe : Obj} {cls : Value} {d : Option Addr} {pn : List (Addr × Obj)} (hz : L2N.Zn cls d oe) (hf : ∃ vs, oe.data = .fields vs)
    (F : DefE X.prog X.w X.K X.mg X.base k x ps sp) (hr : Room k X.A) (hg : Gl (X.suite a ((a, oe) :: pn)) x) (ha : PA (X.suite a ((a, oe) :: pn)) (e :: es) t) (hdb : (x == ("__debug__" : Str)) = false := by decide)
    (he : starEach (e :: es) X.env = (false, eval e X.env) :: starEach es X.env := by rfl) (hpl : (backTo pos (starEach es X.env)).any (·.1) = false := by rfl) :
    PE (X.suite a ((a, oe) :: pn)) (.Call (.Name x q) (e :: es) [] pos) (tCallE cls d a sp t) := by
  obtain ⟨fd, F, hb, hk, hm⟩ := F
  constructor
  intro pins s σ H Q I h
  refine wpAny_Call_Name_kw (ld_glob I hg hm ?_ hdb)
  refine PySem.W.callWith_K (h₀ := X.base) I.ok.mod.kin hk ?_ he hpl
  refine thn (ha.run pos pins s σ H _ I h) ?_
  rintro us s1 ⟨vs, H1, I1, r, D, rfl, rfl, hsp⟩
  refine ⟨I1.kIn, ?_⟩
  have hl : us.length = ps.length := by
    rw [← r.length]
    exact F.len _ _ _ _ _ _ hsp
  have bt := hb s1 us I1.kIn (by rw [List.append_nil]; exact hl)
  rw [List.append_nil] at bt
  have P1 := I1.pin (a, oe) (List.mem_append_left _ List.mem_cons_self)
  have hpin : L2H.PinOk (X.suite a ((a, oe) :: pn)).stack H1 s1 (a, oe) := by
    refine ⟨P1.1, P1.2.1, fun hm => ?_, P1.2.2.2.2⟩
    rcases List.mem_cons.mp (I1.stkSub a hm) with z | z
    · exact P1.2.2.1 z
    · exact P1.2.2.2.1 z
  have hot : L2H.Hot1 (X.suite a ((a, oe) :: pn)).A (a, oe) := by
    obtain ⟨vs, hd⟩ := id hf
    exact ⟨rfl, vs, hd, hz.2.2 vs hd⟩
  refine wpAny_call (codeAny_mono (F.run (a, oe) D _ _ s1 H1 ⟨us, []⟩ us vs Q (fun _ _ _ => False) hz hf hot hpin ⟨hr.dp, hr.un⟩ I1.env0 bt r hsp) ?_)
  intro r2 s2 hq
  match r2, hq with
  | .error e, hq => exact False.elim hq
  | .ok (.ret u), hq => exact I1.after hq
  | .ok .next, hq => exact False.elim hq
  | .ok .brk, hq => exact False.elim hq
  | .ok .cont, hq => exact False.elim hq
/-! ### a local name that holds a def which may raise -/
theorem pe_askS {X : Cx} {CX : CXT} {k i : Nat} {x y : Str} {ps : List Str} {sp : Sp} {E : L2.St → XK} {p pos : Pos} {e : Expr} {es : List Expr} {t : TA} (K : PySem.W.Frag) (hK : X.K = K) (D : DefOk X.prog X.w X.K X.mg X.base CX k y ps sp) (hr : Room k X.A) (hx : ∀ σ, PassesAt CX X σ (E σ)) (ha : PA X (e :: es) t)
    (hN : X.N[i]? = some x := by rfl) (hv : Vis X.env.scope x := by exact Or.inl rfl) (hdb : (x == ("__debug__" : Str)) = false := by decide) (hcd : (x == ("__classdict__" : Str)) = false := by decide)
    (he : starEach (e :: es) X.env = (false, eval e X.env) :: starEach es X.env := by rfl) (hpl : (backTo pos (starEach es X.env)).any (·.1) = false := by rfl) :
    PE X (.Call (.Name x p) (e :: es) [] pos) (fun σ H Q => σ[i]? = some (some (.ref (He.ga K y))) ∧ t σ H fun vs H1 => sp vs H1 Q (E σ)) := by
  subst hK
  obtain ⟨fd, F, hb, hk, _⟩ := D
  constructor
  rintro pins s σ H Q I ⟨hs, ht⟩
  have look := (pe_var (pos := p) hN hv hdb hcd).run pins s σ H (fun v H1 => v = .ref (He.ga X.K y) ∧ H1 = H) I ⟨_, hs, rfl, rfl⟩
  refine wpAny_Call_Name_kw (thn look ?_)
  rintro u s1 ⟨v, H1, I1, r1, rfl, rfl⟩
  cases r1
  refine PySem.W.callWith_K (h₀ := X.base) I.ok.mod.kin hk ?_ he hpl
  refine thn (ha.run pos pins s1 σ _ _ I1 ht) ?_
  rintro us s2 ⟨vs, H2, I2, r, q⟩
  exact ⟨I2.kIn, run_fnS F hr hb (hx σ) I2 r q⟩
/-! ### what is refused -/
/-- what may stand in a list that is no heap -/
inductive Pl (K : PySem.W.Frag) (H : Hp) : V → Prop where
  | int (i : Int) : Pl K H (.int i)
  | non : Pl K H .non
  | bl (b : Bool) : Pl K H (.bl b)
  | str (z : Str) : Pl K H (.str z)
  | lst {a : Addr} {xs : List V} (h : SqL K H a xs) : Pl K H (.ref a)
  | tup {a : Addr} {xs : List V} (h : SqT K H a xs) : Pl K H (.ref a)
theorem Pl.same {K : PySem.W.Frag} {H H' : Hp} {v : V} (s : Same H H') (h : Pl K H v) : Pl K H' v := by
  cases h with
  | int i => exact .int i
  | non => exact .non
  | bl b => exact .bl b
  | str z => exact .str z
  | lst h => exact .lst (s.seq h)
  | tup h => exact .tup (sm_tup s h)
theorem Pl.num {K : PySem.W.Frag} {H : Hp} {v : V} (h : Pl K H v) : NumTy K H v := by
  cases h with
  | int i => exact numTy_int i
  | non => exact numTy_non
  | bl b => exact numTy_bl b
  | str z => exact numTy_str z
  | lst h => exact numTy_list h
  | tup h => exact numTy_tup h
/-- no list -/
inductive NoL (K : PySem.W.Frag) (H : Hp) : V → Prop where
  | int (i : Int) : NoL K H (.int i)
  | non : NoL K H .non
  | str (z : Str) : NoL K H (.str z)
  | tup {a : Addr} {xs : List V} (h : SqT K H a xs) : NoL K H (.ref a)
  | dct {a : Addr} {kvs : List (Key × V)} (h : H a = some (.dK kvs)) : NoL K H (.ref a)
theorem NoL.same {K : PySem.W.Frag} {H H' : Hp} {v : V} (s : Same H H') (h : NoL K H v) : NoL K H' v := by
  cases h with
  | int i => exact .int i
  | non => exact .non
  | str z => exact .str z
  | tup h => exact .tup (sm_tup s h)
  | dct h => exact .dct (s _ _ h)
theorem NoL.ty {K : PySem.W.Frag} {H : Hp} {v : V} (h : NoL K H v) : ∃ ty, TyX K H v ty ∧ PySem.W.kitOne K ty (.type "list") = some false := by
  cases h with
  | int i => exact ⟨_, .base (.int i), kit_ty (r := false) (by decide +kernel)⟩
  | non => exact ⟨_, .base .non, kit_ty (r := false) (by decide +kernel)⟩
  | str z => exact ⟨_, .base (.str z), kit_ty (r := false) (by decide +kernel)⟩
  | tup h => exact ⟨_, ty_tup h, kit_ty (r := false) (by decide +kernel)⟩
  | dct h => exact ⟨_, .base (.dK h), kit_ty (r := false) (by decide +kernel)⟩
/-- no heap -/
def NoHeap (K : PySem.W.Frag) (H : Hp) (x : V) : Prop := NoL K H x ∨ ∃ a xs, x = .ref a ∧ SqL K H a xs ∧ xs.length ≤ 1000 ∧ (∀ v ∈ xs, Pl K H v) ∧ ∃ v ∈ xs, numOk v 0 999 = false
theorem NoHeap.same {K : PySem.W.Frag} {H H' : Hp} {v : V} (s : Same H H') (h : NoHeap K H v) : NoHeap K H' v := by
  rcases h with h | ⟨a, xs, e, h1, h2, h3, h4⟩
  · exact .inl (h.same s)
  · exact .inr ⟨a, xs, e, s.seq h1, h2, fun v hv => (h3 v hv).same s, h4⟩
/-- no number from 1 to 1000 -/
def NoNum (K : PySem.W.Frag) (H : Hp) (x : V) : Prop := Pl K H x ∧ numOk x 1 1000 = false
theorem NoNum.same {K : PySem.W.Frag} {H H' : Hp} {v : V} (s : Same H H') (h : NoNum K H v) : NoNum K H' v := ⟨h.1.same s, h.2⟩
/-- a call that is refused, and what is told of the refusal -/
def Refuses (K : PySem.W.Frag) (H : Hp) (f y z : V) (bs : List Bool) : Prop :=
  (f = .ref (He.ga K "_law_with_heap") ∧ (∃ d : Int, y = .int d ∧ 0 ≤ d ∧ d < 9) ∧ NoHeap K H z ∧ bs = [true, false, false, false, true]) ∨
  (f = .ref (He.ga K "_law_with_number") ∧ (∃ d : Int, y = .int d ∧ 0 ≤ d ∧ d < 2) ∧ NoNum K H z ∧ bs = [false, true, false, false, true]) ∨
  (f = .ref (He.ga K "_law_ring") ∧ (∃ d : Int, y = .int d) ∧ (∃ a L, z = .ref a ∧ SqL K H a (LI L) ∧ Good L ∧ L.length < 2) ∧ bs = [false, false, true, false, true])
theorem Refuses.same {K : PySem.W.Frag} {H H' : Hp} {f y z : V} {bs : List Bool} (s : Same H H') (h : Refuses K H f y z bs) : Refuses K H' f y z bs := by
  rcases h with ⟨a, b, c, d⟩ | ⟨a, b, c, d⟩ | ⟨a, b, ⟨p, L, e, h1, h2⟩, d⟩
  · exact .inl ⟨a, b, c.same s, d⟩
  · exact .inr (.inl ⟨a, b, c.same s, d⟩)
  · exact .inr (.inr ⟨a, b, ⟨p, L, e, s.seq h1, h2⟩, d⟩)
/-! ### lists of bools, compared -/
abbrev LB (bs : List Bool) : List V := bs.map V.bl
def dB (bs : List Bool) : PyData := .list (bs.map PyData.bool)
theorem dpa_lb {K : PySem.W.Frag} {H : Hp} : ∀ L : List Bool, DpAll K H (LB L) (L.map PyData.bool)
  | [] => .nil
  | z :: r => .cons (.bl z) (dpa_lb r)
theorem dp_lb {K : PySem.W.Frag} {H : Hp} {a : Addr} {L : List Bool} (h : SqL K H a (LB L)) : Dp K H (.ref a) (dB L) := .lst h (dpa_lb L)
theorem lay_bools : ∀ L : List Bool, PyData.canLayAll0 (L.map PyData.bool) = true
  | [] => by simp [PyData.canLayAll0]
  | z :: r => by simp [PyData.canLayAll0, PyData.canLay0, lay_bools r]
theorem dep_bools : ∀ L : List Bool, PyData.depthAll (L.map PyData.bool) ≤ 1
  | [] => by simp [PyData.depthAll]
  | z :: r => by
    have := dep_bools r
    simp [PyData.depthAll, PyData.depth]
    omega
theorem shaped_dB (L : List Bool) : SeqAt.shaped (dB L) = true := by
  have h1 := lay_bools L
  have h2 := dep_bools L
  simp [SeqAt.shaped, dB, PyData.canLay0, PyData.depth, h1]
  omega
/-! ### xs[:c] = ys; a pair turned round -/
section
variable {prog : Program} {w : World} {A : Around} {E : Value → Shared → Prop} {s : Shared}
theorem setItem_upto {l b sl : Addr} {items new : Array Value} {n n2 : Nat} {vu : Value} {c : Nat} {Q : Unit → Shared → Prop}
    (e : s.heap.get? l = some { cls := .type "list", data := .seq items n }) (e2 : s.heap.get? b = some { cls := .type "list", data := .seq new n2 }) (hne : l ≠ b)
    (hs : s.heap.IsSliceOf sl .none vu .none) (pu : IsPart vu (some (c : Int))) (hc : c ≤ items.size) (hsz : items.size + new.size ≤ sizeLine)
    (h : Q () { s with heap := s.heap.update l (Obj.mapSeq fun xs => xs.extract 0 0 ++ new ++ xs.extract c xs.size) }) :
    wpAny (model prog w) A (setItem (.ref l) (.ref sl) (.ref b)) Q E s := by
  have isl : s.heap.IsList l items := PySem.IsL.isList e
  have isb : s.heap.IsList b new := PySem.IsL.isList e2
  obtain ⟨os, hos, hcs, hds⟩ := id hs
  have tsl : s.TypeIs (.ref sl) "slice" := ⟨os, hos, hcs⟩
  have apart : Builtin.List.listSameRef (.ref l) (.ref b) = false := by
    unfold Builtin.List.listSameRef
    exact beq_eq_false_iff_ne.mpr hne
  have top : (max (0 : Int) (c : Int)).toNat = c := by omega
  have bd : sliceBounds none (some (c : Int)) none items.size = (0, (c : Int), 1) := by
    simp only [sliceBounds, Option.getD_none]
    have h1 : ¬ ((c : Int) < 0) := by omega
    simp only [h1, if_false, show (1 : Int) > 0 by decide, if_true]
    rw [show max 0 (min (c : Int) items.size) = (c : Int) by omega]
  have room : ((fun xs : Array Value => xs.extract 0 0 ++ new ++ xs.extract c xs.size) items).size ≤ sizeLine + 1 := by
    simp only [Array.size_append, Array.size_extract]
    omega
  unfold setItem
  try with_reducible refine wpAny_holding ?_
  first
    | refine wpAny_bind (wpAny_pure ?_)
    | skip
  refine wpAny_bind (wpAny_sequenceKey isl.typeIs (by decide) ?_)
  refine wpAny_bind (wpAny_callSpecial?_slot (name := Str.ofString "__setitem__") isl.typeIs slot_list_setitem (wpAny_call_entry slot_list_setitem isl.typeIs entry_list_setitem ?_ (args_list_setitem _ _ _)))
  refine wpAny_bind (m := Builtin.List.listSubscript? (.ref sl)) ?_
  unfold Builtin.List.listSubscript?
  refine wpAny_bind (wpAny_specialOf tsl slice_no_index ?_)
  simp only [Option.isNone_none, if_true]
  refine wpAny_pure ?_
  refine wpAny_bind (m := typeOf (.ref sl)) (wpAny_typeOf tsl ?_)
  first
    | rw [if_neg (by decide)]
    | refine PySem.W.KFB.if_not (by decide) ?_
  rw [listSliceParts_eq]
  refine wpAny_bind (wpAny_bind (wpAny_field hos hds (x := .none) rfl (wpAny_bind (wpAny_listPart .none ?_))))
  rw [if_neg (show ¬ ((rawPart none == rawInt 0) = true) from Bool.false_ne_true)]
  refine wpAny_bind (wpAny_field hos hds (x := .none) rfl (wpAny_bind (wpAny_listPart .none ?_)))
  refine wpAny_bind (wpAny_field hos hds (x := vu) rfl (wpAny_bind (wpAny_listPart pu (wpAny_pure ?_))))
  first
    | simp only [apart, Bool.false_eq_true, if_false]
    | refine PySem.W.KFB.if_not apart ?_
    | (dsimp only
       rw [if_neg (by rw [apart]; exact Bool.false_ne_true)])
  refine wpAny_bind (m := Builtin.List.listAllItems (.ref b) "must assign iterable to extended slice") ?_
  unfold Builtin.List.listAllItems
  refine wpAny_bind (wpAny_typeOf isb.typeIs ?_)
  first
    | refine PySem.W.KFB.if_so (by decide) ?_
    | rw [if_pos (by decide)]
    | simp only [beq_self_eq_true, Bool.true_or, if_true]
  unfold Builtin.List.listItems
  refine wpAny_bind (wpAny_seqItems e2 rfl (wpAny_pure ?_))
  refine wpAny_bind (wpAny_bind (wpAny_seqItems e rfl (wpAny_pure ?_)))
  refine wpAny_bind (wpAny_of_eq ((sliceIndices_raw none (some (c : Int)) none items.size (by simp)).trans (congrArg (pure : Int × Int × Int → Sem (Int × Int × Int)) bd)) ?_)
  show wpAny _ _ (if ((1 : Int) == 1) = true then _ else _) _ _ s
  rw [if_pos (by decide)]
  refine wpAny_bind (wpAny_rule ?_)
  first
    | simp only [notLongL hsz, Bool.false_eq_true, if_false]
    | refine PySem.W.KFB.if_not (notLongL hsz) ?_
  first
    | refine wpAny_bind (wpAny_pure ?_)
    | skip
  show wpAny _ _ (updateSeq l (fun xs => xs.extract 0 (0 : Int).toNat ++ new ++ xs.extract (max (0 : Int) (c : Int)).toNat xs.size) >>= _) _ _ s
  rw [top]
  refine wpAny_bind (wpAny_updateSeq (hz := Nat.le_trans (Nat.le_add_right _ _) hsz) (_hz' := room) e rfl ?_)
  refine wpAny_bind (wpAny_letGo ?_)
  first
    | exact wpAny_bind (wpAny_pure (wpAny_pure ⟨.none, rfl, wpAny_pure h⟩))
    | exact wpAny_pure ⟨.none, rfl, wpAny_pure h⟩
/-- a pair's items from behind -/
theorem getItem_pair_back {t sl : Addr} {u v : Value} {Q : Value → Shared → Prop} (ht : IsTup s.heap t #[u, v]) {vs : Value} (hs : s.heap.IsSliceOf sl .none .none vs) (ps : IsPart vs (some (-1)))
    (h : Q (.ref s.heap.objs.size) { s with heap := s.heap.push { cls := .type "tuple", data := .seq #[v, u] } }) : wpAny (model prog w) A (getItem (.ref t) (.ref sl)) Q E s := by
  obtain ⟨os, hos, hcs, hds⟩ := id hs
  have tsl : s.TypeIs (.ref sl) "slice" := ⟨os, hos, hcs⟩
  have ok : sizeOk (.seq #[v, u]) := by
    show 2 ≤ sizeLine
    decide
  have cut : ∀ {B : Around} {E2 : Value → Shared → Prop} {Q : Int × Int × Nat → Shared → Prop}, Q (1, -1, 2) s → wpAny (model prog w) B (Builtin.Slice.sliceApplied (.ref sl) (pure (2 : Int))) Q E2 s := by
    intro B E2 Q q
    unfold Builtin.Slice.sliceApplied Builtin.Slice.sliceFields
    refine wpAny_bind (wpAny_bind (wpAny_field hos hds (x := .none) rfl ?_))
    refine wpAny_bind (wpAny_field hos hds (x := .none) rfl ?_)
    refine wpAny_bind (wpAny_field hos hds (x := vs) rfl (wpAny_pure ?_))
    refine wpAny_bind (HT.slicePart_ ps ?_)
    show wpAny _ _ (if ((-1 : Int) == 0) = true then _ else _) _ _ s
    rw [if_neg (by decide)]
    refine wpAny_bind (HT.slicePart_ .none (wpAny_bind (HT.slicePart_ .none (wpAny_bind (wpAny_pure ?_)))))
    exact wpAny_pure q
  unfold getItem
  try with_reducible refine wpAny_holding ?_
  first
    | refine wpAny_bind (wpAny_pure ?_)
    | skip
  refine wpAny_bind (wpAny_sequenceKey ht.typeIs (by decide) ?_)
  refine wpAny_bind (wpAny_callSpecial?_slot (name := Str.ofString "__getitem__") ht.typeIs PyProof.Rows.slot_tuple_getitem (wpAny_call_entry PyProof.Rows.slot_tuple_getitem ht.typeIs entry_tuple_getitem ?_ (args_tuple_getitem _ _)))
  refine wpAny_bind (m := Builtin.Tuple.tupleItemsOf (.ref t)) (tupleItemsOf_ ht ?_)
  refine wpAny_bind (wpAny_typeOf tsl ?_)
  rw [if_pos (by decide)]
  refine wpAny_bind (cut ?_)
  show wpAny _ _ (if ((1 : Int) == 0 && (-1 : Int) == 1 && (2 : Nat) == 2) = true then _ else _) _ _ s
  rw [if_neg (by decide)]
  show wpAny _ _ (Builtin.Tuple.tupleExact #[v, u] >>= _) _ _ s
  first
    | exact wpAny_bind (m := Builtin.Tuple.tupleExact _) (wpAny_newObj_type (wpAny_pure ⟨_, rfl, wpAny_pure h⟩) ok)
    | exact wpAny_bind (m := Builtin.Tuple.tupleExact _) (wpAny_newObj_type (wpAny_bind (wpAny_pure (wpAny_pure ⟨_, rfl, wpAny_pure h⟩))) ok)
    | exact wpAny_bind (wpAny_bind (m := Builtin.Tuple.tupleExact _) (wpAny_newObj_type (wpAny_pure (wpAny_pure ⟨_, rfl, wpAny_pure h⟩)) ok))
    | exact wpAny_bind (wpAny_bind (m := Builtin.Tuple.tupleExact _) (wpAny_newObj_type (wpAny_pure ⟨_, rfl, wpAny_pure h⟩) ok))
end
section
variable {X : Cx}
def gUpto (c : Nat) (to : TE) : TG := fun v σ H Q => to σ H fun x H1 => ∃ l b xs ys, x = .ref l ∧ v = .ref b ∧ H1 l = some (.lst xs) ∧ H1 b = some (.lst ys) ∧ l ≠ b ∧ c ≤ xs.length ∧ xs.length + ys.length ≤ 1000000 ∧ Q σ (upd H1 l (.lst (ys ++ xs.drop c)))
theorem pg_upto {c : Nat} {o : Expr} {to : TE} {k2 : Nat} {p2 p3 pos : Pos} (ho : PE X o to)
    (ha : ∀ v, assign (.Subscript o (.Slice none (some (.Constant (.int (c : Int)) k2 p2)) none p3) pos) X.env v = (do
      let ov ← holding [v] (eval o X.env)
      let iv ← holding [v, ov] (eval (.Slice none (some (.Constant (.int (c : Int)) k2 p2)) none p3) X.env)
      standAt pos
      holding [v, ov, iv] (setItem ov iv v)
      release [iv, v, ov] []) := by intro _; rfl) : PG X (.Subscript o (.Slice none (some (.Constant (.int (c : Int)) k2 p2)) none p3) pos) (gUpto c to) := by
  refine ⟨fun pins s σ H v u Q I r h => ?_⟩
  rw [ha]
  refine wpAny_bind (wpAny_holding (thn (ho.run pins s σ H _ I h) fun ov s1 ⟨x, H1, I1, r1, l, b, xs, ys, ex, ev, hl, hb, hne, hn, hz, q1⟩ => ?_))
  subst ex ev
  cases r1
  cases r
  have hhi : PO X (some (.Constant (.int (c : Int)) k2 p2)) (tPart (tC (.int (c : Int)))) := po_some pe_int
  refine wpAny_bind (wpAny_holding ?_)
  refine wpAny_Slice (thn (po_none.run pins s1 σ H1 (fun o H2 => o = none ∧ H2 = H1) I1 ⟨rfl, rfl⟩) fun vl s2 ⟨lo, H2, I2, pl, elo, eH⟩ => ?_)
  subst elo eH
  cases pl
  refine thn (hhi.run pins s2 σ H2 (fun hi H3 => hi = some (c : Int) ∧ H3 = H2) I2 ⟨_, rfl, rfl, rfl⟩) fun vu s3 ⟨hi, H3, I3, pu, ehi, eH⟩ => ?_
  subst ehi eH
  rw [evalPart_none]
  refine wpAny_pure ?_
  have I4 : Inv X pins σ H3 { s3 with heap := s3.heap.push { cls := .type "slice", data := .fields #[.none, vu, .none] } } := I3.kept (t' := s3.toks) fun b ob q => Heap.get?_push_of_some _ q
  refine wpAny_bind (wpAny_standAt (wpAny_bind (wpAny_holding ?_)))
  obtain ⟨z, its, n, rl, hll, e⟩ := I4.lstM hl
  obtain ⟨z2, its2, n2, r2, hl2, e2⟩ := I4.lstM hb
  refine setItem_upto (c := c) e e2 hne (Heap.IsSliceOf.new ..) pu (by rw [List.size_toArray]; omega) (by rw [List.size_toArray, List.size_toArray]; exact sz_le (by omega)) (wpAny_release ?_)
  refine ⟨σ, _, ?_, q1⟩
  refine I4.lset (its' := its2 ++ its.drop c) (t' := s3.toks) hl e ?_ (Vals.append r2 (rl.drop _)) (by rw [List.length_append, List.length_drop]; exact sz_le (by omega))
  simp
  exact List.take_of_length_le (by rw [List.length_drop]; omega)
/-- (u, v)[::-1] -/
def tBackP (K : PySem.W.Frag) (te : TE) : TE := fun σ H Q => te σ H fun x H1 => ∃ a y z, x = .ref a ∧ SqT K H1 a [y, z] ∧ ∀ p, H1 p = none → Q (.ref p) (upd H1 p (.tup [z, y]))
theorem zbackP (K : PySem.W.Frag) {e : Expr} {te : TE} {k : Nat} {p1 p2 p3 pos : Pos} (he : PE X e te) (hK : X.K = K := by rfl) : PE X (.Subscript e (.Slice none none (some (.UnaryOp .USub (.Constant (.int 1) k p1) p2)) p3) pos) (tBackP K te) := by
  subst hK
  refine ⟨fun pins s σ H Q I h => ?_⟩
  refine Subscript_ (thn (he.run pins s σ H _ I h) ?_)
  rintro v s1 ⟨_, H1, I1, r1, a, y, z, rfl, hx, q⟩
  cases r1
  have hst : PO X (some (.UnaryOp .USub (.Constant (.int 1) k p1) p2)) (tPart (tUn (rU fun i => .int (-i)) (tC (.int 1)))) := po_some (pe_un un_neg pe_int)
  refine wpAny_Slice (thn (po_none.run pins s1 σ H1 (fun o H2 => o = none ∧ H2 = H1) I1 ⟨rfl, rfl⟩) ?_)
  rintro vl s2 ⟨l, H2, I2, pl, rfl, rfl⟩
  refine thn (po_none.run pins s2 σ _ (fun o H3 => o = none ∧ H3 = H2) I2 ⟨rfl, rfl⟩) ?_
  rintro vu s3 ⟨u, H3, I3, pu, rfl, rfl⟩
  refine thn (hst.run pins s3 σ _ (fun o H4 => o = some (-1) ∧ H4 = H3) I3 ⟨1, rfl, -1, rfl, rfl, rfl⟩) ?_
  rintro vs s4 ⟨o, H4, I4, ps, rfl, rfl⟩
  cases pl
  cases pu
  have I5 : Inv X pins σ H4 { s4 with heap := s4.heap.push { cls := .type "slice", data := .fields #[.none, .none, vs] } } := I4.kept (t' := s4.toks) fun b ob q => Heap.get?_push_of_some _ q
  obtain ⟨its, r, ht, hz⟩ := I5.tuple hx
  obtain ⟨u1, u2, rfl, ry, rz⟩ : ∃ u1 u2, its = [u1, u2] ∧ RelV y u1 ∧ RelV z u2 := by
    cases r with
    | cons a b =>
    cases b with
    | cons c d =>
    cases d
    exact ⟨_, _, rfl, a, c⟩
  show wpAny (model X.prog X.w) X.A (subscriptTail e (.Slice none none (some (.UnaryOp .USub (.Constant (.int 1) k p1) p2)) p3) (.ref a) (.ref s4.heap.objs.size)) (EP X pins σ Q) X.xe { s4 with heap := s4.heap.push { cls := .type "slice", data := .fields #[.none, .none, vs] } }
  refine tail_any (ops := [.ref a, .ref s4.heap.objs.size]) ht.typeIs PyProof.Rows.slot_tuple_getitem.lookup ?_ (by with_unfolding_all rfl)
  refine getItem_pair_back ht (Heap.IsSliceOf.new _ .none .none vs) ps ?_
  refine ⟨.ref _, _, I5.laid (t' := s4.toks) (o := .tup [z, y]) (fun b ob q => Heap.get?_push_of_some _ q) (Nat.le_refl _) ?_, rfl, q _ (I5.hok.fresh (Nat.le_refl _))⟩
  exact ⟨by show 2 ≤ sizeLine; decide, _, .cons rz (.cons ry .nil), IsTup.new _ _⟩
end
/-! ### rings by rows; lists of lists -/
theorem ring_core (F : List Int) (h : 2 ≤ F.length) : ((List.range F.length).all fun k => decide (F.getD k 0 ≠ F.getD (if k = 0 then F.length - 1 else k - 1) 0)) = (adjB F && decide (F.getD 0 0 ≠ F.getD (F.length - 1) 0)) := by
  rw [Bool.eq_iff_iff, Bool.and_eq_true, List.all_eq_true, decide_eq_true_eq]
  unfold adjB
  rw [List.all_eq_true]
  constructor
  · intro k
    refine ⟨fun i hi => decide_eq_true fun z => ?_, fun z => ?_⟩
    · have hi := List.mem_range.mp hi
      have := of_decide_eq_true (k (i + 1) (List.mem_range.mpr (by omega)))
      rw [if_neg (by omega), Nat.add_sub_cancel] at this
      exact this z.symm
    · have := of_decide_eq_true (k 0 (List.mem_range.mpr (by omega)))
      rw [if_pos rfl] at this
      exact this z
  · rintro ⟨k1, k2⟩ i hi
    have hi := List.mem_range.mp hi
    refine decide_eq_true ?_
    by_cases e : i = 0
    · rw [if_pos e, e]
      exact k2
    · rw [if_neg e]
      intro z
      have := of_decide_eq_true (k1 (i - 1) (List.mem_range.mpr (by omega)))
      rw [show i - 1 + 1 = i by omega] at this
      exact this z.symm
theorem ringP_row (F M : List Int) : ringP F M = (rowP F M && (decide ((F.length : Int) > 1) && decide (F.getD 0 0 ≠ F.getD (F.length - 1) 0))) := by
  unfold ringP rowP
  by_cases h : 2 ≤ F.length
  · rw [ring_core F h, decide_eq_true h, decide_eq_true (show (F.length : Int) > 1 by omega), Bool.true_and, Bool.true_and, Bool.and_assoc]
  · rw [decide_eq_false h, decide_eq_false (show ¬ (F.length : Int) > 1 by omega), Bool.false_and, Bool.false_and, Bool.and_false]
theorem getD_app {F G : List Int} {i : Nat} (h : i < F.length) : (F ++ G).getD i 0 = F.getD i 0 := by
  rw [List.getD_eq_getElem?_getD, List.getD_eq_getElem?_getD, List.getElem?_append_left h]
theorem ringP_cyc (F M : List Int) : ringP F M = (decide (srt F = srt M) && (decide ((F.length : Int) > 1) && adjB (F ++ F.take 1))) := by
  unfold ringP
  by_cases h : 2 ≤ F.length
  · rw [ring_core F h, decide_eq_true h, decide_eq_true (show (F.length : Int) > 1 by omega), Bool.true_and, Bool.true_and]
    congr 1
    have hl : (F ++ F.take 1).length = F.length + 1 := by rw [List.length_append, List.length_take]; omega
    have hlast : (F ++ F.take 1).getD F.length 0 = F.getD 0 0 := by
      rw [List.getD_eq_getElem?_getD, List.getElem?_append_right (Nat.le_refl _), Nat.sub_self, List.getD_eq_getElem?_getD, List.getElem?_take_of_lt (by decide)]
    rw [Bool.eq_iff_iff, Bool.and_eq_true, decide_eq_true_eq]
    unfold adjB
    rw [List.all_eq_true, List.all_eq_true, hl, Nat.add_sub_cancel]
    constructor
    · rintro ⟨k1, k2⟩ i hi
      have hi := List.mem_range.mp hi
      refine decide_eq_true ?_
      by_cases e : i + 1 < F.length
      · rw [getD_app (by omega), getD_app e]
        exact of_decide_eq_true (k1 i (List.mem_range.mpr (by omega)))
      · obtain rfl : i = F.length - 1 := by omega
        rw [getD_app (by omega), show F.length - 1 + 1 = F.length by omega, hlast]
        exact fun z => k2 z.symm
    · intro k
      refine ⟨fun i hi => decide_eq_true ?_, ?_⟩
      · have hi := List.mem_range.mp hi
        have := of_decide_eq_true (k i (List.mem_range.mpr (by omega)))
        rw [getD_app (by omega), getD_app (by omega)] at this
        exact this
      · have := of_decide_eq_true (k (F.length - 1) (List.mem_range.mpr (by omega)))
        rw [getD_app (by omega), show F.length - 1 + 1 = F.length by omega, hlast] at this
        exact fun z => this z.symm
  · rw [decide_eq_false h, decide_eq_false (show ¬ (F.length : Int) > 1 by omega), Bool.false_and, Bool.false_and, Bool.and_false]
theorem flat_le {G : List (List Int)} {n : Nat} (h : ∀ g ∈ G, g.length ≤ n) : G.flatten.length ≤ G.length * n := by
  induction G with
  | nil => simp
  | cons g r ih =>
    have h1 := h g List.mem_cons_self
    have h2 := ih fun x hx => h x (List.mem_cons_of_mem _ hx)
    rw [List.flatten_cons, List.length_append, List.length_cons, Nat.succ_mul]
    omega
/-! ### the text -/
def topS (i : Nat) : Stmt := PySem.Challenge.pw_apartrow_k07_answers_by_hand.main.body.getD i (.Pass ⟨0, 0, 0, 0⟩)
abbrev s_is_number : Stmt := topS 9
abbrev N_is_number : List Str := ["thing", "low", "high"]
theorem sc_is_number : FnScope N_is_number ["thing", "low", "high"] (defScope s_is_number) := ⟨rfl, rfl, rfl, by decide +kernel, rfl, by decide +kernel, by decide +kernel⟩
abbrev s_check_heap : Stmt := topS 10
abbrev N_check_heap : List Str := ["heap", "kind"]
theorem sc_check_heap : FnScope N_check_heap ["heap"] (defScope s_check_heap) := ⟨rfl, rfl, rfl, by decide +kernel, rfl, by decide +kernel, by decide +kernel⟩
abbrev s_check_number : Stmt := topS 11
abbrev N_check_number : List Str := ["number"]
theorem sc_check_number : FnScope N_check_number ["number"] (defScope s_check_number) := ⟨rfl, rfl, rfl, by decide +kernel, rfl, by decide +kernel, by decide +kernel⟩
abbrev s_counts_of : Stmt := topS 12
abbrev N_counts_of : List Str := ["heap", "found", "kind"]
theorem sc_counts_of : FnScope N_counts_of ["heap"] (defScope s_counts_of) := ⟨rfl, rfl, rfl, by decide +kernel, rfl, by decide +kernel, by decide +kernel⟩
abbrev s_commonest : Stmt := topS 13
abbrev N_commonest : List Str := ["heap", "many", "most", "kind"]
theorem sc_commonest : FnScope N_commonest ["heap"] (defScope s_commonest) := ⟨rfl, rfl, rfl, by decide +kernel, rfl, by decide +kernel, by decide +kernel⟩
abbrev s_by_count : Stmt := topS 14
abbrev N_by_count : List Str := ["heap", "found", "kind", "many", "turn"]
theorem sc_by_count : FnScope N_by_count ["heap"] (defScope s_by_count) := ⟨rfl, rfl, rfl, by decide +kernel, rfl, by decide +kernel, by decide +kernel⟩
abbrev s_most_of : Stmt := topS 17
abbrev N_most_of : List Str := ["heap"]
theorem sc_most_of : FnScope N_most_of ["heap"] (defScope s_most_of) := ⟨rfl, rfl, rfl, by decide +kernel, rfl, by decide +kernel, by decide +kernel⟩
abbrev s_Row_init : Stmt := inClass (topS 18) 0
abbrev N_Row_init : List Str := ["self", "kinds"]
theorem sc_Row_init : FnScope N_Row_init ["self", "kinds"] (defScope s_Row_init) := ⟨rfl, rfl, rfl, by decide +kernel, rfl, by decide +kernel, by decide +kernel⟩
abbrev s_Row_shows : Stmt := inClass (topS 18) 1
abbrev N_Row_shows : List Str := ["self", "heap", "k"]
theorem sc_Row_shows : FnScope N_Row_shows ["self", "heap"] (defScope s_Row_shows) := ⟨rfl, rfl, rfl, by decide +kernel, rfl, by decide +kernel, by decide +kernel⟩
abbrev s_Ring_init : Stmt := inClass (topS 19) 0
abbrev N_Ring_init : List Str := ["self", "kinds"]
theorem sc_Ring_init : FnScope N_Ring_init ["self", "kinds"] (defScope s_Ring_init) := ⟨rfl, rfl, rfl, by decide +kernel, rfl, by decide +kernel, by decide +kernel⟩
abbrev s_Ring_shows : Stmt := inClass (topS 19) 1
abbrev N_Ring_shows : List Str := ["self", "heap", "k"]
theorem sc_Ring_shows : FnScope N_Ring_shows ["self", "heap"] (defScope s_Ring_shows) := ⟨rfl, rfl, rfl, by decide +kernel, rfl, by decide +kernel, by decide +kernel⟩
abbrev s_Much_init : Stmt := inClass (topS 20) 0
abbrev N_Much_init : List Str := ["self", "kind"]
theorem sc_Much_init : FnScope N_Much_init ["self", "kind"] (defScope s_Much_init) := ⟨rfl, rfl, rfl, by decide +kernel, rfl, by decide +kernel, by decide +kernel⟩
abbrev s_Much_shows : Stmt := inClass (topS 20) 1
abbrev N_Much_shows : List Str := ["self", "heap"]
theorem sc_Much_shows : FnScope N_Much_shows ["self", "heap"] (defScope s_Much_shows) := ⟨rfl, rfl, rfl, by decide +kernel, rfl, by decide +kernel, by decide +kernel⟩
abbrev s_Much_bars_ring : Stmt := inClass (topS 20) 2
abbrev N_Much_bars_ring : List Str := ["self", "heap"]
theorem sc_Much_bars_ring : FnScope N_Much_bars_ring ["self", "heap"] (defScope s_Much_bars_ring) := ⟨rfl, rfl, rfl, by decide +kernel, rfl, by decide +kernel, by decide +kernel⟩
abbrev s_Spaced_init : Stmt := inClass (topS 21) 0
abbrev N_Spaced_init : List Str := ["self", "kinds"]
theorem sc_Spaced_init : FnScope N_Spaced_init ["self", "kinds"] (defScope s_Spaced_init) := ⟨rfl, rfl, rfl, by decide +kernel, rfl, by decide +kernel, by decide +kernel⟩
abbrev s_Spaced_shows : Stmt := inClass (topS 21) 1
abbrev N_Spaced_shows : List Str := ["self", "heap", "apart", "kind", "last", "at", "many", "most"]
theorem sc_Spaced_shows : FnScope N_Spaced_shows ["self", "heap", "apart"] (defScope s_Spaced_shows) := ⟨rfl, rfl, rfl, by decide +kernel, rfl, by decide +kernel, by decide +kernel⟩
abbrev s_Paired_init : Stmt := inClass (topS 22) 0
abbrev N_Paired_init : List Str := ["self", "pairs", "left"]
theorem sc_Paired_init : FnScope N_Paired_init ["self", "pairs", "left"] (defScope s_Paired_init) := ⟨rfl, rfl, rfl, by decide +kernel, rfl, by decide +kernel, by decide +kernel⟩
abbrev s_Paired_shows : Stmt := inClass (topS 22) 1
abbrev N_Paired_shows : List Str := ["self", "heap", "things", "one", "other", "kind", "pair"]
theorem sc_Paired_shows : FnScope N_Paired_shows ["self", "heap"] (defScope s_Paired_shows) := ⟨rfl, rfl, rfl, by decide +kernel, rfl, by decide +kernel, by decide +kernel⟩
abbrev s_Grouped_init : Stmt := inClass (topS 23) 0
abbrev N_Grouped_init : List Str := ["self", "groups", "group"]
theorem sc_Grouped_init : FnScope N_Grouped_init ["self", "groups"] (defScope s_Grouped_init) := ⟨rfl, rfl, rfl, by decide +kernel, rfl, by decide +kernel, by decide +kernel⟩
abbrev s_Grouped_shows : Stmt := inClass (topS 23) 1
abbrev N_Grouped_shows : List Str := ["self", "heap", "size", "left", "group", "kind"]
theorem sc_Grouped_shows : FnScope N_Grouped_shows ["self", "heap", "size"] (defScope s_Grouped_shows) := ⟨rfl, rfl, rfl, by decide +kernel, rfl, by decide +kernel, by decide +kernel⟩
abbrev s_room_for : Stmt := topS 24
abbrev N_room_for : List Str := ["heap", "groups", "many"]
theorem sc_room_for : FnScope N_room_for ["heap", "groups"] (defScope s_room_for) := ⟨rfl, rfl, rfl, by decide +kernel, rfl, by decide +kernel, by decide +kernel⟩
abbrev s_blocks_of : Stmt := topS 26
abbrev N_blocks_of : List Str := ["heap", "most", "top", "blocks", "kind", "others", "at", "turn"]
theorem sc_blocks_of : FnScope N_blocks_of ["heap", "most"] (defScope s_blocks_of) := ⟨rfl, rfl, rfl, by decide +kernel, rfl, by decide +kernel, by decide +kernel⟩
abbrev s_spaced : Stmt := topS 27
abbrev N_spaced : List Str := ["heap", "apart", "most", "blocks", "found", "block", "turn"]
theorem sc_spaced : FnScope N_spaced ["heap", "apart"] (defScope s_spaced) := ⟨rfl, rfl, rfl, by decide +kernel, rfl, by decide +kernel, by decide +kernel⟩
abbrev s_dealt : Stmt := topS 29
abbrev N_dealt : List Str := ["heap", "many", "size", "left", "things", "kind", "groups", "at", "turn"]
theorem sc_dealt : FnScope N_dealt ["heap", "many", "size"] (defScope s_dealt) := ⟨rfl, rfl, rfl, by decide +kernel, rfl, by decide +kernel, by decide +kernel⟩
abbrev s_grouped : Stmt := topS 30
abbrev N_grouped : List Str := ["heap", "size", "many"]
theorem sc_grouped : FnScope N_grouped ["heap", "size"] (defScope s_grouped) := ⟨rfl, rfl, rfl, by decide +kernel, rfl, by decide +kernel, by decide +kernel⟩
abbrev s_paired : Stmt := topS 31
abbrev N_paired : List Str := ["heap", "things", "most", "many", "half", "k", "kind"]
theorem sc_paired : FnScope N_paired ["heap"] (defScope s_paired) := ⟨rfl, rfl, rfl, by decide +kernel, rfl, by decide +kernel, by decide +kernel⟩
abbrev s_laid : Stmt := topS 33
abbrev N_laid : List Str := ["heap", "things", "found", "half"]
theorem sc_laid : FnScope N_laid ["heap"] (defScope s_laid) := ⟨rfl, rfl, rfl, by decide +kernel, rfl, by decide +kernel, by decide +kernel⟩
abbrev s_unlike : Stmt := topS 34
abbrev N_unlike : List Str := ["heap", "kind"]
theorem sc_unlike : FnScope N_unlike ["heap"] (defScope s_unlike) := ⟨rfl, rfl, rfl, by decide +kernel, rfl, by decide +kernel, by decide +kernel⟩
abbrev s_ringed : Stmt := topS 35
abbrev N_ringed : List Str := ["heap", "kind"]
theorem sc_ringed : FnScope N_ringed ["heap"] (defScope s_ringed) := ⟨rfl, rfl, rfl, by decide +kernel, rfl, by decide +kernel, by decide +kernel⟩
abbrev s__law_cell_at : Stmt := topS 37
abbrev N__law_cell_at : List Str := ["_law_script", "_law_k"]
theorem sc__law_cell_at : FnScope N__law_cell_at ["_law_script", "_law_k"] (defScope s__law_cell_at) := ⟨rfl, rfl, rfl, by decide +kernel, rfl, by decide +kernel, by decide +kernel⟩
abbrev s__law_draw : Stmt := topS 38
abbrev N__law_draw : List Str := ["_law_cell", "_law_k", "_law_many_here", "_law_primes"]
theorem sc__law_draw : FnScope N__law_draw ["_law_cell", "_law_k", "_law_many_here"] (defScope s__law_draw) := ⟨rfl, rfl, rfl, by decide +kernel, rfl, by decide +kernel, by decide +kernel⟩
abbrev s__law_heap : Stmt := topS 39
abbrev N__law_heap : List Str := ["_law_script", "_law_few", "_law_lean", "_law_heap_here", "_law_k", "_law_kind"]
theorem sc__law_heap : FnScope N__law_heap ["_law_script"] (defScope s__law_heap) := ⟨rfl, rfl, rfl, by decide +kernel, rfl, by decide +kernel, by decide +kernel⟩
abbrev s__law_many : Stmt := topS 40
abbrev N__law_many : List Str := ["_law_heap_here", "_law_found", "_law_kind"]
theorem sc__law_many : FnScope N__law_many ["_law_heap_here"] (defScope s__law_many) := ⟨rfl, rfl, rfl, by decide +kernel, rfl, by decide +kernel, by decide +kernel⟩
abbrev s__law_most : Stmt := topS 41
abbrev N__law_most : List Str := ["_law_heap_here", "_law_kind", "_law_many_here"]
theorem sc__law_most : FnScope N__law_most ["_law_heap_here"] (defScope s__law_most) := ⟨rfl, rfl, rfl, by decide +kernel, rfl, by decide +kernel, by decide +kernel⟩
abbrev s__law_numbers : Stmt := topS 42
abbrev N__law_numbers : List Str := ["_law_found", "_law_one"]
theorem sc__law_numbers : FnScope N__law_numbers ["_law_found"] (defScope s__law_numbers) := ⟨rfl, rfl, rfl, by decide +kernel, rfl, by decide +kernel, by decide +kernel⟩
abbrev s__law_says : Stmt := topS 43
abbrev N__law_says : List Str := ["_law_told", "_law_due"]
theorem sc__law_says : FnScope N__law_says ["_law_told", "_law_due"] (defScope s__law_says) := ⟨rfl, rfl, rfl, by decide +kernel, rfl, by decide +kernel, by decide +kernel⟩
abbrev s__law_bent : Stmt := topS 44
abbrev N__law_bent : List Str := ["_law_kinds", "_law_cell", "_law_kind", "_law_many_here", "_law_at", "_law_other", "_law_found"]
theorem sc__law_bent : FnScope N__law_bent ["_law_kinds", "_law_cell"] (defScope s__law_bent) := ⟨rfl, rfl, rfl, by decide +kernel, rfl, by decide +kernel, by decide +kernel⟩
abbrev s__law_unlike : Stmt := topS 45
abbrev N__law_unlike : List Str := ["_law_kinds", "_law_k"]
theorem sc__law_unlike : FnScope N__law_unlike ["_law_kinds"] (defScope s__law_unlike) := ⟨rfl, rfl, rfl, by decide +kernel, rfl, by decide +kernel, by decide +kernel⟩
abbrev s__law_rows_right : Stmt := topS 46
abbrev N__law_rows_right : List Str := ["_law_heap_here", "_law_cell", "_law_told", "_law_kinds", "_law_handed", "_law_row", "_law_ring", "_law_due", "_law_kind", "_law_more"]
theorem sc__law_rows_right : FnScope N__law_rows_right ["_law_heap_here", "_law_cell"] (defScope s__law_rows_right) := ⟨rfl, rfl, rfl, by decide +kernel, rfl, by decide +kernel, by decide +kernel⟩
abbrev s__law_spaced : Stmt := topS 47
abbrev N__law_spaced : List Str := ["_law_heap_here", "_law_kinds", "_law_apart", "_law_seen", "_law_at", "_law_most_here", "_law_many_here", "_law_kind", "_law_count"]
theorem sc__law_spaced : FnScope N__law_spaced ["_law_heap_here", "_law_kinds", "_law_apart"] (defScope s__law_spaced) := ⟨rfl, rfl, rfl, by decide +kernel, rfl, by decide +kernel, by decide +kernel⟩
abbrev s__law_gaps_right : Stmt := topS 48
abbrev N__law_gaps_right : List Str := ["_law_heap_here", "_law_cell", "_law_apart", "_law_kinds", "_law_handed", "_law_answer", "_law_number"]
theorem sc__law_gaps_right : FnScope N__law_gaps_right ["_law_heap_here", "_law_cell"] (defScope s__law_gaps_right) := ⟨rfl, rfl, rfl, by decide +kernel, rfl, by decide +kernel, by decide +kernel⟩
abbrev s__law_paired : Stmt := topS 49
abbrev N__law_paired : List Str := ["_law_heap_here", "_law_pairs", "_law_left", "_law_things", "_law_pair"]
theorem sc__law_paired : FnScope N__law_paired ["_law_heap_here", "_law_pairs", "_law_left"] (defScope s__law_paired) := ⟨rfl, rfl, rfl, by decide +kernel, rfl, by decide +kernel, by decide +kernel⟩
abbrev s__law_pairs_right : Stmt := topS 50
abbrev N__law_pairs_right : List Str := ["_law_heap_here", "_law_cell", "_law_told", "_law_pairs", "_law_left", "_law_way", "_law_handed", "_law_answer"]
theorem sc__law_pairs_right : FnScope N__law_pairs_right ["_law_heap_here", "_law_cell"] (defScope s__law_pairs_right) := ⟨rfl, rfl, rfl, by decide +kernel, rfl, by decide +kernel, by decide +kernel⟩
abbrev s__law_grouped : Stmt := topS 51
abbrev N__law_grouped : List Str := ["_law_heap_here", "_law_groups", "_law_size", "_law_left", "_law_group", "_law_kind", "_law_more", "_law_many_here"]
theorem sc__law_grouped : FnScope N__law_grouped ["_law_heap_here", "_law_groups", "_law_size"] (defScope s__law_grouped) := ⟨rfl, rfl, rfl, by decide +kernel, rfl, by decide +kernel, by decide +kernel⟩
abbrev s__law_groups_right : Stmt := topS 52
abbrev N__law_groups_right : List Str := ["_law_heap_here", "_law_cell", "_law_size", "_law_group", "_law_groups", "_law_way", "_law_at", "_law_handed", "_law_answer", "_law_number"]
theorem sc__law_groups_right : FnScope N__law_groups_right ["_law_heap_here", "_law_cell"] (defScope s__law_groups_right) := ⟨rfl, rfl, rfl, by decide +kernel, rfl, by decide +kernel, by decide +kernel⟩
abbrev s__law_few_right : Stmt := topS 53
abbrev N__law_few_right : List Str := ["_law_groups", "_law_due", "_law_kinds"]
theorem sc__law_few_right : FnScope N__law_few_right [] (defScope s__law_few_right) := ⟨rfl, rfl, rfl, by decide +kernel, rfl, by decide +kernel, by decide +kernel⟩
abbrev s_law : Stmt := topS 54
abbrev N_law : List Str := ["_law_script", "_law_heap_here", "_law_k", "_law_cell"]
theorem sc_law : FnScope N_law ["_law_script"] (defScope s_law) := ⟨rfl, rfl, rfl, by decide +kernel, rfl, by decide +kernel, by decide +kernel⟩
/-! ### the facts of the top -/
def fa0 : List He.Fa := [.free "isinstance",
  .free "int",
  .free "bool",
  .free "list",
  .free "len",
  .free "all",
  .free "sorted",
  .free "max",
  .free "range",
  .free "enumerate",
  .free "min",
  .free "set",
  .free "sum",
  .free "any",
  .glo "is_number",
  .glo "check_heap",
  .glo "check_number",
  .glo "counts_of",
  .glo "commonest",
  .glo "by_count",
  .glo "most_of",
  .glo "room_for",
  .glo "blocks_of",
  .glo "spaced",
  .glo "dealt",
  .glo "grouped",
  .glo "paired",
  .glo "laid",
  .glo "unlike",
  .glo "ringed"]
def fa1 : List He.Fa := [.glo "_law_cell_at",
  .glo "_law_draw",
  .glo "_law_heap",
  .glo "_law_many",
  .glo "_law_most",
  .glo "_law_numbers",
  .glo "_law_says",
  .glo "_law_bent",
  .glo "_law_unlike",
  .glo "_law_rows_right",
  .glo "_law_spaced",
  .glo "_law_gaps_right",
  .glo "_law_paired",
  .glo "_law_pairs_right",
  .glo "_law_grouped",
  .glo "_law_groups_right",
  .glo "_law_few_right",
  .glo "law",
  .glo "HeapError",
  .glo "BadHeap",
  .glo "BadNumber",
  .glo "TooFew",
  .glo "Answer",
  .glo "Row",
  .glo "Ring",
  .glo "Much",
  .glo "Spaced",
  .glo "Paired",
  .glo "Grouped",
  .int "GREATEST" 999]
def fa2 : List He.Fa := [.int "MOST" 1000,
  .int "THINGS" 1000000,
  .exc "HeapError",
  .exc "BadHeap",
  .exc "BadNumber",
  .exc "TooFew",
  .cls "Row",
  .mkr "Row",
  .noat "Row" "kinds",
  .meth "Row" "shows",
  .cls "Ring",
  .mkr "Ring",
  .noat "Ring" "kinds",
  .meth "Ring" "shows",
  .cls "Much",
  .mkr "Much",
  .noat "Much" "kind",
  .meth "Much" "shows",
  .meth "Much" "bars_ring",
  .cls "Spaced",
  .mkr "Spaced",
  .noat "Spaced" "kinds",
  .meth "Spaced" "shows",
  .cls "Paired",
  .mkr "Paired",
  .noat "Paired" "pairs",
  .noat "Paired" "left",
  .meth "Paired" "shows",
  .cls "Grouped",
  .mkr "Grouped"]
def fa3 : List He.Fa := [.noat "Grouped" "groups",
  .meth "Grouped" "shows"]
def fa : List He.Fa := fa0 ++ fa1 ++ fa2 ++ fa3
def fn0 : List He.DefD := [⟨("is_number", none), "is_number", "is_number", defArgs s_is_number, defBody s_is_number, defScope s_is_number, [], []⟩,
  ⟨("check_heap", none), "check_heap", "check_heap", defArgs s_check_heap, defBody s_check_heap, defScope s_check_heap, [], []⟩,
  ⟨("check_number", none), "check_number", "check_number", defArgs s_check_number, defBody s_check_number, defScope s_check_number, [], []⟩,
  ⟨("counts_of", none), "counts_of", "counts_of", defArgs s_counts_of, defBody s_counts_of, defScope s_counts_of, [], []⟩,
  ⟨("commonest", none), "commonest", "commonest", defArgs s_commonest, defBody s_commonest, defScope s_commonest, [], []⟩,
  ⟨("by_count", none), "by_count", "by_count", defArgs s_by_count, defBody s_by_count, defScope s_by_count, [], []⟩,
  ⟨("most_of", none), "most_of", "most_of", defArgs s_most_of, defBody s_most_of, defScope s_most_of, [], []⟩,
  ⟨("Row", some "__init__"), "__init__", "Row.__init__", defArgs s_Row_init, defBody s_Row_init, defScope s_Row_init, [], []⟩,
  ⟨("Row", some "shows"), "shows", "Row.shows", defArgs s_Row_shows, defBody s_Row_shows, defScope s_Row_shows, [], []⟩,
  ⟨("Ring", some "__init__"), "__init__", "Ring.__init__", defArgs s_Ring_init, defBody s_Ring_init, defScope s_Ring_init, [], []⟩,
  ⟨("Ring", some "shows"), "shows", "Ring.shows", defArgs s_Ring_shows, defBody s_Ring_shows, defScope s_Ring_shows, [], []⟩,
  ⟨("Much", some "__init__"), "__init__", "Much.__init__", defArgs s_Much_init, defBody s_Much_init, defScope s_Much_init, [], []⟩,
  ⟨("Much", some "shows"), "shows", "Much.shows", defArgs s_Much_shows, defBody s_Much_shows, defScope s_Much_shows, [], []⟩,
  ⟨("Much", some "bars_ring"), "bars_ring", "Much.bars_ring", defArgs s_Much_bars_ring, defBody s_Much_bars_ring, defScope s_Much_bars_ring, [], []⟩,
  ⟨("Spaced", some "__init__"), "__init__", "Spaced.__init__", defArgs s_Spaced_init, defBody s_Spaced_init, defScope s_Spaced_init, [], []⟩,
  ⟨("Spaced", some "shows"), "shows", "Spaced.shows", defArgs s_Spaced_shows, defBody s_Spaced_shows, defScope s_Spaced_shows, [], []⟩,
  ⟨("Paired", some "__init__"), "__init__", "Paired.__init__", defArgs s_Paired_init, defBody s_Paired_init, defScope s_Paired_init, [], []⟩,
  ⟨("Paired", some "shows"), "shows", "Paired.shows", defArgs s_Paired_shows, defBody s_Paired_shows, defScope s_Paired_shows, [], []⟩,
  ⟨("Grouped", some "__init__"), "__init__", "Grouped.__init__", defArgs s_Grouped_init, defBody s_Grouped_init, defScope s_Grouped_init, [], []⟩,
  ⟨("Grouped", some "shows"), "shows", "Grouped.shows", defArgs s_Grouped_shows, defBody s_Grouped_shows, defScope s_Grouped_shows, [], []⟩,
  ⟨("room_for", none), "room_for", "room_for", defArgs s_room_for, defBody s_room_for, defScope s_room_for, [], []⟩,
  ⟨("blocks_of", none), "blocks_of", "blocks_of", defArgs s_blocks_of, defBody s_blocks_of, defScope s_blocks_of, [], []⟩,
  ⟨("spaced", none), "spaced", "spaced", defArgs s_spaced, defBody s_spaced, defScope s_spaced, [], []⟩,
  ⟨("dealt", none), "dealt", "dealt", defArgs s_dealt, defBody s_dealt, defScope s_dealt, [], []⟩,
  ⟨("grouped", none), "grouped", "grouped", defArgs s_grouped, defBody s_grouped, defScope s_grouped, [], []⟩,
  ⟨("paired", none), "paired", "paired", defArgs s_paired, defBody s_paired, defScope s_paired, [], []⟩,
  ⟨("laid", none), "laid", "laid", defArgs s_laid, defBody s_laid, defScope s_laid, [], []⟩,
  ⟨("unlike", none), "unlike", "unlike", defArgs s_unlike, defBody s_unlike, defScope s_unlike, [], []⟩,
  ⟨("ringed", none), "ringed", "ringed", defArgs s_ringed, defBody s_ringed, defScope s_ringed, [], []⟩,
  ⟨("_law_cell_at", none), "_law_cell_at", "_law_cell_at", defArgs s__law_cell_at, defBody s__law_cell_at, defScope s__law_cell_at, [], []⟩]
def fn1 : List He.DefD := [⟨("_law_draw", none), "_law_draw", "_law_draw", defArgs s__law_draw, defBody s__law_draw, defScope s__law_draw, [], []⟩,
  ⟨("_law_heap", none), "_law_heap", "_law_heap", defArgs s__law_heap, defBody s__law_heap, defScope s__law_heap, [], []⟩,
  ⟨("_law_many", none), "_law_many", "_law_many", defArgs s__law_many, defBody s__law_many, defScope s__law_many, [], []⟩,
  ⟨("_law_most", none), "_law_most", "_law_most", defArgs s__law_most, defBody s__law_most, defScope s__law_most, [], []⟩,
  ⟨("_law_numbers", none), "_law_numbers", "_law_numbers", defArgs s__law_numbers, defBody s__law_numbers, defScope s__law_numbers, [], []⟩,
  ⟨("_law_says", none), "_law_says", "_law_says", defArgs s__law_says, defBody s__law_says, defScope s__law_says, [], []⟩,
  ⟨("_law_bent", none), "_law_bent", "_law_bent", defArgs s__law_bent, defBody s__law_bent, defScope s__law_bent, [], []⟩,
  ⟨("_law_unlike", none), "_law_unlike", "_law_unlike", defArgs s__law_unlike, defBody s__law_unlike, defScope s__law_unlike, [], []⟩,
  ⟨("_law_rows_right", none), "_law_rows_right", "_law_rows_right", defArgs s__law_rows_right, defBody s__law_rows_right, defScope s__law_rows_right, [], []⟩,
  ⟨("_law_spaced", none), "_law_spaced", "_law_spaced", defArgs s__law_spaced, defBody s__law_spaced, defScope s__law_spaced, [], []⟩,
  ⟨("_law_gaps_right", none), "_law_gaps_right", "_law_gaps_right", defArgs s__law_gaps_right, defBody s__law_gaps_right, defScope s__law_gaps_right, [], []⟩,
  ⟨("_law_paired", none), "_law_paired", "_law_paired", defArgs s__law_paired, defBody s__law_paired, defScope s__law_paired, [], []⟩,
  ⟨("_law_pairs_right", none), "_law_pairs_right", "_law_pairs_right", defArgs s__law_pairs_right, defBody s__law_pairs_right, defScope s__law_pairs_right, [], []⟩,
  ⟨("_law_grouped", none), "_law_grouped", "_law_grouped", defArgs s__law_grouped, defBody s__law_grouped, defScope s__law_grouped, [], []⟩,
  ⟨("_law_groups_right", none), "_law_groups_right", "_law_groups_right", defArgs s__law_groups_right, defBody s__law_groups_right, defScope s__law_groups_right, [], []⟩,
  ⟨("_law_few_right", none), "_law_few_right", "_law_few_right", defArgs s__law_few_right, defBody s__law_few_right, defScope s__law_few_right, [], []⟩,
  ⟨("law", none), "law", "law", defArgs s_law, defBody s_law, defScope s_law, [], []⟩]
def fn : List He.DefD := fn0 ++ fn1
def tf : List He.Defn := [("by_count", none)]
def exL (K : PySem.W.Frag) : List Bool := [insB K "Row",
  kitI K "Row" "Ring" false,
  kitI K "Row" "Row" true,
  insB K "Ring",
  kitI K "Ring" "Ring" true,
  kitI K "Ring" "Row" false,
  insB K "Much",
  kitI K "Much" "Ring" false,
  kitI K "Much" "Row" false,
  insB K "Spaced",
  kitI K "Spaced" "Ring" false,
  kitI K "Spaced" "Row" false,
  insB K "Paired",
  kitI K "Paired" "Ring" false,
  kitI K "Paired" "Row" false,
  insB K "Grouped",
  kitI K "Grouped" "Ring" false,
  kitI K "Grouped" "Row" false]
def exB (K : PySem.W.Frag) : Bool := (exL K).all id
abbrev Tp (K : PySem.W.Frag) (mg : Str → Option Value) (base : Heap) : Prop := Top fa fn exB tf K mg base
section
variable {P : Program} {w : World} {K : PySem.W.Frag} {mg : Str → Option Value} {base : Heap}

theorem n_isinstance (T : Tp K mg base) : mg "isinstance" = none := T.free 0
theorem n_int (T : Tp K mg base) : mg "int" = none := T.free 1
theorem n_bool (T : Tp K mg base) : mg "bool" = none := T.free 2
theorem n_list (T : Tp K mg base) : mg "list" = none := T.free 3
theorem n_len (T : Tp K mg base) : mg "len" = none := T.free 4
theorem n_all (T : Tp K mg base) : mg "all" = none := T.free 5
theorem n_sorted (T : Tp K mg base) : mg "sorted" = none := T.free 6
theorem n_max (T : Tp K mg base) : mg "max" = none := T.free 7
theorem n_range (T : Tp K mg base) : mg "range" = none := T.free 8
theorem n_enumerate (T : Tp K mg base) : mg "enumerate" = none := T.free 9
theorem n_min (T : Tp K mg base) : mg "min" = none := T.free 10
theorem n_set (T : Tp K mg base) : mg "set" = none := T.free 11
theorem n_sum (T : Tp K mg base) : mg "sum" = none := T.free 12
theorem n_any (T : Tp K mg base) : mg "any" = none := T.free 13
theorem g_is_number (T : Tp K mg base) : mg "is_number" = some (.ref (He.ga K "is_number")) := T.glo 14
theorem g_check_heap (T : Tp K mg base) : mg "check_heap" = some (.ref (He.ga K "check_heap")) := T.glo 15
theorem g_check_number (T : Tp K mg base) : mg "check_number" = some (.ref (He.ga K "check_number")) := T.glo 16
theorem g_counts_of (T : Tp K mg base) : mg "counts_of" = some (.ref (He.ga K "counts_of")) := T.glo 17
theorem g_commonest (T : Tp K mg base) : mg "commonest" = some (.ref (He.ga K "commonest")) := T.glo 18
theorem g_by_count (T : Tp K mg base) : mg "by_count" = some (.ref (He.ga K "by_count")) := T.glo 19
theorem g_most_of (T : Tp K mg base) : mg "most_of" = some (.ref (He.ga K "most_of")) := T.glo 20
theorem g_room_for (T : Tp K mg base) : mg "room_for" = some (.ref (He.ga K "room_for")) := T.glo 21
theorem g_blocks_of (T : Tp K mg base) : mg "blocks_of" = some (.ref (He.ga K "blocks_of")) := T.glo 22
theorem g_spaced (T : Tp K mg base) : mg "spaced" = some (.ref (He.ga K "spaced")) := T.glo 23
theorem g_dealt (T : Tp K mg base) : mg "dealt" = some (.ref (He.ga K "dealt")) := T.glo 24
theorem g_grouped (T : Tp K mg base) : mg "grouped" = some (.ref (He.ga K "grouped")) := T.glo 25
theorem g_paired (T : Tp K mg base) : mg "paired" = some (.ref (He.ga K "paired")) := T.glo 26
theorem g_laid (T : Tp K mg base) : mg "laid" = some (.ref (He.ga K "laid")) := T.glo 27
theorem g_unlike (T : Tp K mg base) : mg "unlike" = some (.ref (He.ga K "unlike")) := T.glo 28
theorem g_ringed (T : Tp K mg base) : mg "ringed" = some (.ref (He.ga K "ringed")) := T.glo 29
theorem g__law_cell_at (T : Tp K mg base) : mg "_law_cell_at" = some (.ref (He.ga K "_law_cell_at")) := T.glo 30
theorem g__law_draw (T : Tp K mg base) : mg "_law_draw" = some (.ref (He.ga K "_law_draw")) := T.glo 31
theorem g__law_heap (T : Tp K mg base) : mg "_law_heap" = some (.ref (He.ga K "_law_heap")) := T.glo 32
theorem g__law_many (T : Tp K mg base) : mg "_law_many" = some (.ref (He.ga K "_law_many")) := T.glo 33
theorem g__law_most (T : Tp K mg base) : mg "_law_most" = some (.ref (He.ga K "_law_most")) := T.glo 34
theorem g__law_numbers (T : Tp K mg base) : mg "_law_numbers" = some (.ref (He.ga K "_law_numbers")) := T.glo 35
theorem g__law_says (T : Tp K mg base) : mg "_law_says" = some (.ref (He.ga K "_law_says")) := T.glo 36
theorem g__law_bent (T : Tp K mg base) : mg "_law_bent" = some (.ref (He.ga K "_law_bent")) := T.glo 37
theorem g__law_unlike (T : Tp K mg base) : mg "_law_unlike" = some (.ref (He.ga K "_law_unlike")) := T.glo 38
theorem g__law_rows_right (T : Tp K mg base) : mg "_law_rows_right" = some (.ref (He.ga K "_law_rows_right")) := T.glo 39
theorem g__law_spaced (T : Tp K mg base) : mg "_law_spaced" = some (.ref (He.ga K "_law_spaced")) := T.glo 40
theorem g__law_gaps_right (T : Tp K mg base) : mg "_law_gaps_right" = some (.ref (He.ga K "_law_gaps_right")) := T.glo 41
theorem g__law_paired (T : Tp K mg base) : mg "_law_paired" = some (.ref (He.ga K "_law_paired")) := T.glo 42
theorem g__law_pairs_right (T : Tp K mg base) : mg "_law_pairs_right" = some (.ref (He.ga K "_law_pairs_right")) := T.glo 43
theorem g__law_grouped (T : Tp K mg base) : mg "_law_grouped" = some (.ref (He.ga K "_law_grouped")) := T.glo 44
theorem g__law_groups_right (T : Tp K mg base) : mg "_law_groups_right" = some (.ref (He.ga K "_law_groups_right")) := T.glo 45
theorem g__law_few_right (T : Tp K mg base) : mg "_law_few_right" = some (.ref (He.ga K "_law_few_right")) := T.glo 46
theorem g_law (T : Tp K mg base) : mg "law" = some (.ref (He.ga K "law")) := T.glo 47
theorem g_HeapError (T : Tp K mg base) : mg "HeapError" = some (.ref (He.ga K "HeapError")) := T.glo 48
theorem g_BadHeap (T : Tp K mg base) : mg "BadHeap" = some (.ref (He.ga K "BadHeap")) := T.glo 49
theorem g_BadNumber (T : Tp K mg base) : mg "BadNumber" = some (.ref (He.ga K "BadNumber")) := T.glo 50
theorem g_TooFew (T : Tp K mg base) : mg "TooFew" = some (.ref (He.ga K "TooFew")) := T.glo 51
theorem g_Answer (T : Tp K mg base) : mg "Answer" = some (.ref (He.ga K "Answer")) := T.glo 52
theorem g_Row (T : Tp K mg base) : mg "Row" = some (.ref (He.ga K "Row")) := T.glo 53
theorem g_Ring (T : Tp K mg base) : mg "Ring" = some (.ref (He.ga K "Ring")) := T.glo 54
theorem g_Much (T : Tp K mg base) : mg "Much" = some (.ref (He.ga K "Much")) := T.glo 55
theorem g_Spaced (T : Tp K mg base) : mg "Spaced" = some (.ref (He.ga K "Spaced")) := T.glo 56
theorem g_Paired (T : Tp K mg base) : mg "Paired" = some (.ref (He.ga K "Paired")) := T.glo 57
theorem g_Grouped (T : Tp K mg base) : mg "Grouped" = some (.ref (He.ga K "Grouped")) := T.glo 58
theorem c_GREATEST (T : Tp K mg base) : ∃ t, mg "GREATEST" = some (.int 999 t) := T.int 59
theorem c_MOST (T : Tp K mg base) : ∃ t, mg "MOST" = some (.int 1000 t) := T.int 60
theorem c_THINGS (T : Tp K mg base) : ∃ t, mg "THINGS" = some (.int 1000000 t) := T.int 61
theorem ex_HeapError (T : Tp K mg base) : ExcC K "HeapError" := He.exc_ok (T.d.fact 62 rfl)
theorem ex_BadHeap (T : Tp K mg base) : ExcC K "BadHeap" := He.exc_ok (T.d.fact 63 rfl)
theorem ex_BadNumber (T : Tp K mg base) : ExcC K "BadNumber" := He.exc_ok (T.d.fact 64 rfl)
theorem ex_TooFew (T : Tp K mg base) : ExcC K "TooFew" := He.exc_ok (T.d.fact 65 rfl)
theorem cls_Row (T : Tp K mg base) : Cls K (He.ga K "Row") := He.cls_ok (T.d.fact 66 rfl)
theorem mkr_Row (T : Tp K mg base) : Mk K (He.ga K "Row") (He.ma K (He.ga K "Row") "__init__") := He.mkr_ok (T.d.fact 67 rfl)
theorem na_Row_kinds (T : Tp K mg base) : NoAttr K (He.ga K "Row") "kinds" := He.noat_ok (T.d.fact 68 rfl)
theorem me_Row_shows (T : Tp K mg base) : Meth K (He.ga K "Row") "shows" (He.ma K (He.ga K "Row") "shows") := He.meth_ok (T.d.fact 69 rfl)
theorem cls_Ring (T : Tp K mg base) : Cls K (He.ga K "Ring") := He.cls_ok (T.d.fact 70 rfl)
theorem mkr_Ring (T : Tp K mg base) : Mk K (He.ga K "Ring") (He.ma K (He.ga K "Ring") "__init__") := He.mkr_ok (T.d.fact 71 rfl)
theorem na_Ring_kinds (T : Tp K mg base) : NoAttr K (He.ga K "Ring") "kinds" := He.noat_ok (T.d.fact 72 rfl)
theorem me_Ring_shows (T : Tp K mg base) : Meth K (He.ga K "Ring") "shows" (He.ma K (He.ga K "Ring") "shows") := He.meth_ok (T.d.fact 73 rfl)
theorem cls_Much (T : Tp K mg base) : Cls K (He.ga K "Much") := He.cls_ok (T.d.fact 74 rfl)
theorem mkr_Much (T : Tp K mg base) : Mk K (He.ga K "Much") (He.ma K (He.ga K "Much") "__init__") := He.mkr_ok (T.d.fact 75 rfl)
theorem na_Much_kind (T : Tp K mg base) : NoAttr K (He.ga K "Much") "kind" := He.noat_ok (T.d.fact 76 rfl)
theorem me_Much_shows (T : Tp K mg base) : Meth K (He.ga K "Much") "shows" (He.ma K (He.ga K "Much") "shows") := He.meth_ok (T.d.fact 77 rfl)
theorem me_Much_bars_ring (T : Tp K mg base) : Meth K (He.ga K "Much") "bars_ring" (He.ma K (He.ga K "Much") "bars_ring") := He.meth_ok (T.d.fact 78 rfl)
theorem cls_Spaced (T : Tp K mg base) : Cls K (He.ga K "Spaced") := He.cls_ok (T.d.fact 79 rfl)
theorem mkr_Spaced (T : Tp K mg base) : Mk K (He.ga K "Spaced") (He.ma K (He.ga K "Spaced") "__init__") := He.mkr_ok (T.d.fact 80 rfl)
theorem na_Spaced_kinds (T : Tp K mg base) : NoAttr K (He.ga K "Spaced") "kinds" := He.noat_ok (T.d.fact 81 rfl)
theorem me_Spaced_shows (T : Tp K mg base) : Meth K (He.ga K "Spaced") "shows" (He.ma K (He.ga K "Spaced") "shows") := He.meth_ok (T.d.fact 82 rfl)
theorem cls_Paired (T : Tp K mg base) : Cls K (He.ga K "Paired") := He.cls_ok (T.d.fact 83 rfl)
theorem mkr_Paired (T : Tp K mg base) : Mk K (He.ga K "Paired") (He.ma K (He.ga K "Paired") "__init__") := He.mkr_ok (T.d.fact 84 rfl)
theorem na_Paired_pairs (T : Tp K mg base) : NoAttr K (He.ga K "Paired") "pairs" := He.noat_ok (T.d.fact 85 rfl)
theorem na_Paired_left (T : Tp K mg base) : NoAttr K (He.ga K "Paired") "left" := He.noat_ok (T.d.fact 86 rfl)
theorem me_Paired_shows (T : Tp K mg base) : Meth K (He.ga K "Paired") "shows" (He.ma K (He.ga K "Paired") "shows") := He.meth_ok (T.d.fact 87 rfl)
theorem cls_Grouped (T : Tp K mg base) : Cls K (He.ga K "Grouped") := He.cls_ok (T.d.fact 88 rfl)
theorem mkr_Grouped (T : Tp K mg base) : Mk K (He.ga K "Grouped") (He.ma K (He.ga K "Grouped") "__init__") := He.mkr_ok (T.d.fact 89 rfl)
theorem na_Grouped_groups (T : Tp K mg base) : NoAttr K (He.ga K "Grouped") "groups" := He.noat_ok (T.d.fact 90 rfl)
theorem me_Grouped_shows (T : Tp K mg base) : Meth K (He.ga K "Grouped") "shows" (He.ma K (He.ga K "Grouped") "shows") := He.meth_ok (T.d.fact 91 rfl)
theorem d_is_number (T : Tp K mg base) : ∃ fd, FunD K "is_number" "is_number" (defArgs s_is_number) (defBody s_is_number) (defScope s_is_number) [] [] (He.fAd K ("is_number", none)) fd := T.d.def_ 0 rfl
theorem d_check_heap (T : Tp K mg base) : ∃ fd, FunD K "check_heap" "check_heap" (defArgs s_check_heap) (defBody s_check_heap) (defScope s_check_heap) [] [] (He.fAd K ("check_heap", none)) fd := T.d.def_ 1 rfl
theorem d_check_number (T : Tp K mg base) : ∃ fd, FunD K "check_number" "check_number" (defArgs s_check_number) (defBody s_check_number) (defScope s_check_number) [] [] (He.fAd K ("check_number", none)) fd := T.d.def_ 2 rfl
theorem d_counts_of (T : Tp K mg base) : ∃ fd, FunD K "counts_of" "counts_of" (defArgs s_counts_of) (defBody s_counts_of) (defScope s_counts_of) [] [] (He.fAd K ("counts_of", none)) fd := T.d.def_ 3 rfl
theorem d_commonest (T : Tp K mg base) : ∃ fd, FunD K "commonest" "commonest" (defArgs s_commonest) (defBody s_commonest) (defScope s_commonest) [] [] (He.fAd K ("commonest", none)) fd := T.d.def_ 4 rfl
theorem d_by_count (T : Tp K mg base) : ∃ fd, FunD K "by_count" "by_count" (defArgs s_by_count) (defBody s_by_count) (defScope s_by_count) [] [] (He.fAd K ("by_count", none)) fd := T.d.def_ 5 rfl
theorem d_most_of (T : Tp K mg base) : ∃ fd, FunD K "most_of" "most_of" (defArgs s_most_of) (defBody s_most_of) (defScope s_most_of) [] [] (He.fAd K ("most_of", none)) fd := T.d.def_ 6 rfl
theorem d_Row_init (T : Tp K mg base) : ∃ fd, FunD K "__init__" "Row.__init__" (defArgs s_Row_init) (defBody s_Row_init) (defScope s_Row_init) [] [] (He.fAd K ("Row", some "__init__")) fd := T.d.def_ 7 rfl
theorem d_Row_shows (T : Tp K mg base) : ∃ fd, FunD K "shows" "Row.shows" (defArgs s_Row_shows) (defBody s_Row_shows) (defScope s_Row_shows) [] [] (He.fAd K ("Row", some "shows")) fd := T.d.def_ 8 rfl
theorem d_Ring_init (T : Tp K mg base) : ∃ fd, FunD K "__init__" "Ring.__init__" (defArgs s_Ring_init) (defBody s_Ring_init) (defScope s_Ring_init) [] [] (He.fAd K ("Ring", some "__init__")) fd := T.d.def_ 9 rfl
theorem d_Ring_shows (T : Tp K mg base) : ∃ fd, FunD K "shows" "Ring.shows" (defArgs s_Ring_shows) (defBody s_Ring_shows) (defScope s_Ring_shows) [] [] (He.fAd K ("Ring", some "shows")) fd := T.d.def_ 10 rfl
theorem d_Much_init (T : Tp K mg base) : ∃ fd, FunD K "__init__" "Much.__init__" (defArgs s_Much_init) (defBody s_Much_init) (defScope s_Much_init) [] [] (He.fAd K ("Much", some "__init__")) fd := T.d.def_ 11 rfl
theorem d_Much_shows (T : Tp K mg base) : ∃ fd, FunD K "shows" "Much.shows" (defArgs s_Much_shows) (defBody s_Much_shows) (defScope s_Much_shows) [] [] (He.fAd K ("Much", some "shows")) fd := T.d.def_ 12 rfl
theorem d_Much_bars_ring (T : Tp K mg base) : ∃ fd, FunD K "bars_ring" "Much.bars_ring" (defArgs s_Much_bars_ring) (defBody s_Much_bars_ring) (defScope s_Much_bars_ring) [] [] (He.fAd K ("Much", some "bars_ring")) fd := T.d.def_ 13 rfl
theorem d_Spaced_init (T : Tp K mg base) : ∃ fd, FunD K "__init__" "Spaced.__init__" (defArgs s_Spaced_init) (defBody s_Spaced_init) (defScope s_Spaced_init) [] [] (He.fAd K ("Spaced", some "__init__")) fd := T.d.def_ 14 rfl
theorem d_Spaced_shows (T : Tp K mg base) : ∃ fd, FunD K "shows" "Spaced.shows" (defArgs s_Spaced_shows) (defBody s_Spaced_shows) (defScope s_Spaced_shows) [] [] (He.fAd K ("Spaced", some "shows")) fd := T.d.def_ 15 rfl
theorem d_Paired_init (T : Tp K mg base) : ∃ fd, FunD K "__init__" "Paired.__init__" (defArgs s_Paired_init) (defBody s_Paired_init) (defScope s_Paired_init) [] [] (He.fAd K ("Paired", some "__init__")) fd := T.d.def_ 16 rfl
theorem d_Paired_shows (T : Tp K mg base) : ∃ fd, FunD K "shows" "Paired.shows" (defArgs s_Paired_shows) (defBody s_Paired_shows) (defScope s_Paired_shows) [] [] (He.fAd K ("Paired", some "shows")) fd := T.d.def_ 17 rfl
theorem d_Grouped_init (T : Tp K mg base) : ∃ fd, FunD K "__init__" "Grouped.__init__" (defArgs s_Grouped_init) (defBody s_Grouped_init) (defScope s_Grouped_init) [] [] (He.fAd K ("Grouped", some "__init__")) fd := T.d.def_ 18 rfl
theorem d_Grouped_shows (T : Tp K mg base) : ∃ fd, FunD K "shows" "Grouped.shows" (defArgs s_Grouped_shows) (defBody s_Grouped_shows) (defScope s_Grouped_shows) [] [] (He.fAd K ("Grouped", some "shows")) fd := T.d.def_ 19 rfl
theorem d_room_for (T : Tp K mg base) : ∃ fd, FunD K "room_for" "room_for" (defArgs s_room_for) (defBody s_room_for) (defScope s_room_for) [] [] (He.fAd K ("room_for", none)) fd := T.d.def_ 20 rfl
theorem d_blocks_of (T : Tp K mg base) : ∃ fd, FunD K "blocks_of" "blocks_of" (defArgs s_blocks_of) (defBody s_blocks_of) (defScope s_blocks_of) [] [] (He.fAd K ("blocks_of", none)) fd := T.d.def_ 21 rfl
theorem d_spaced (T : Tp K mg base) : ∃ fd, FunD K "spaced" "spaced" (defArgs s_spaced) (defBody s_spaced) (defScope s_spaced) [] [] (He.fAd K ("spaced", none)) fd := T.d.def_ 22 rfl
theorem d_dealt (T : Tp K mg base) : ∃ fd, FunD K "dealt" "dealt" (defArgs s_dealt) (defBody s_dealt) (defScope s_dealt) [] [] (He.fAd K ("dealt", none)) fd := T.d.def_ 23 rfl
theorem d_grouped (T : Tp K mg base) : ∃ fd, FunD K "grouped" "grouped" (defArgs s_grouped) (defBody s_grouped) (defScope s_grouped) [] [] (He.fAd K ("grouped", none)) fd := T.d.def_ 24 rfl
theorem d_paired (T : Tp K mg base) : ∃ fd, FunD K "paired" "paired" (defArgs s_paired) (defBody s_paired) (defScope s_paired) [] [] (He.fAd K ("paired", none)) fd := T.d.def_ 25 rfl
theorem d_laid (T : Tp K mg base) : ∃ fd, FunD K "laid" "laid" (defArgs s_laid) (defBody s_laid) (defScope s_laid) [] [] (He.fAd K ("laid", none)) fd := T.d.def_ 26 rfl
theorem d_unlike (T : Tp K mg base) : ∃ fd, FunD K "unlike" "unlike" (defArgs s_unlike) (defBody s_unlike) (defScope s_unlike) [] [] (He.fAd K ("unlike", none)) fd := T.d.def_ 27 rfl
theorem d_ringed (T : Tp K mg base) : ∃ fd, FunD K "ringed" "ringed" (defArgs s_ringed) (defBody s_ringed) (defScope s_ringed) [] [] (He.fAd K ("ringed", none)) fd := T.d.def_ 28 rfl
theorem d__law_cell_at (T : Tp K mg base) : ∃ fd, FunD K "_law_cell_at" "_law_cell_at" (defArgs s__law_cell_at) (defBody s__law_cell_at) (defScope s__law_cell_at) [] [] (He.fAd K ("_law_cell_at", none)) fd := T.d.def_ 29 rfl
theorem d__law_draw (T : Tp K mg base) : ∃ fd, FunD K "_law_draw" "_law_draw" (defArgs s__law_draw) (defBody s__law_draw) (defScope s__law_draw) [] [] (He.fAd K ("_law_draw", none)) fd := T.d.def_ 30 rfl
theorem d__law_heap (T : Tp K mg base) : ∃ fd, FunD K "_law_heap" "_law_heap" (defArgs s__law_heap) (defBody s__law_heap) (defScope s__law_heap) [] [] (He.fAd K ("_law_heap", none)) fd := T.d.def_ 31 rfl
theorem d__law_many (T : Tp K mg base) : ∃ fd, FunD K "_law_many" "_law_many" (defArgs s__law_many) (defBody s__law_many) (defScope s__law_many) [] [] (He.fAd K ("_law_many", none)) fd := T.d.def_ 32 rfl
theorem d__law_most (T : Tp K mg base) : ∃ fd, FunD K "_law_most" "_law_most" (defArgs s__law_most) (defBody s__law_most) (defScope s__law_most) [] [] (He.fAd K ("_law_most", none)) fd := T.d.def_ 33 rfl
theorem d__law_numbers (T : Tp K mg base) : ∃ fd, FunD K "_law_numbers" "_law_numbers" (defArgs s__law_numbers) (defBody s__law_numbers) (defScope s__law_numbers) [] [] (He.fAd K ("_law_numbers", none)) fd := T.d.def_ 34 rfl
theorem d__law_says (T : Tp K mg base) : ∃ fd, FunD K "_law_says" "_law_says" (defArgs s__law_says) (defBody s__law_says) (defScope s__law_says) [] [] (He.fAd K ("_law_says", none)) fd := T.d.def_ 35 rfl
theorem d__law_bent (T : Tp K mg base) : ∃ fd, FunD K "_law_bent" "_law_bent" (defArgs s__law_bent) (defBody s__law_bent) (defScope s__law_bent) [] [] (He.fAd K ("_law_bent", none)) fd := T.d.def_ 36 rfl
theorem d__law_unlike (T : Tp K mg base) : ∃ fd, FunD K "_law_unlike" "_law_unlike" (defArgs s__law_unlike) (defBody s__law_unlike) (defScope s__law_unlike) [] [] (He.fAd K ("_law_unlike", none)) fd := T.d.def_ 37 rfl
theorem d__law_rows_right (T : Tp K mg base) : ∃ fd, FunD K "_law_rows_right" "_law_rows_right" (defArgs s__law_rows_right) (defBody s__law_rows_right) (defScope s__law_rows_right) [] [] (He.fAd K ("_law_rows_right", none)) fd := T.d.def_ 38 rfl
theorem d__law_spaced (T : Tp K mg base) : ∃ fd, FunD K "_law_spaced" "_law_spaced" (defArgs s__law_spaced) (defBody s__law_spaced) (defScope s__law_spaced) [] [] (He.fAd K ("_law_spaced", none)) fd := T.d.def_ 39 rfl
theorem d__law_gaps_right (T : Tp K mg base) : ∃ fd, FunD K "_law_gaps_right" "_law_gaps_right" (defArgs s__law_gaps_right) (defBody s__law_gaps_right) (defScope s__law_gaps_right) [] [] (He.fAd K ("_law_gaps_right", none)) fd := T.d.def_ 40 rfl
theorem d__law_paired (T : Tp K mg base) : ∃ fd, FunD K "_law_paired" "_law_paired" (defArgs s__law_paired) (defBody s__law_paired) (defScope s__law_paired) [] [] (He.fAd K ("_law_paired", none)) fd := T.d.def_ 41 rfl
theorem d__law_pairs_right (T : Tp K mg base) : ∃ fd, FunD K "_law_pairs_right" "_law_pairs_right" (defArgs s__law_pairs_right) (defBody s__law_pairs_right) (defScope s__law_pairs_right) [] [] (He.fAd K ("_law_pairs_right", none)) fd := T.d.def_ 42 rfl
theorem d__law_grouped (T : Tp K mg base) : ∃ fd, FunD K "_law_grouped" "_law_grouped" (defArgs s__law_grouped) (defBody s__law_grouped) (defScope s__law_grouped) [] [] (He.fAd K ("_law_grouped", none)) fd := T.d.def_ 43 rfl
theorem d__law_groups_right (T : Tp K mg base) : ∃ fd, FunD K "_law_groups_right" "_law_groups_right" (defArgs s__law_groups_right) (defBody s__law_groups_right) (defScope s__law_groups_right) [] [] (He.fAd K ("_law_groups_right", none)) fd := T.d.def_ 44 rfl
theorem d__law_few_right (T : Tp K mg base) : ∃ fd, FunD K "_law_few_right" "_law_few_right" (defArgs s__law_few_right) (defBody s__law_few_right) (defScope s__law_few_right) [] [] (He.fAd K ("_law_few_right", none)) fd := T.d.def_ 45 rfl
theorem d_law (T : Tp K mg base) : ∃ fd, FunD K "law" "law" (defArgs s_law) (defBody s_law) (defScope s_law) [] [] (He.fAd K ("law", none)) fd := T.d.def_ 46 rfl
theorem ti_Row (T : Tp K mg base) : InsC K (He.ga K "Row") := insB_ok (ex_at (l := exL K) T.ex 0 rfl)
theorem kt_Row_Ring (T : Tp K mg base) : PySem.W.kitOne K (.ref (He.ga K "Row")) (.ref (He.ga K "Ring")) = some false := of_decide_eq_true (ex_at (l := exL K) T.ex 1 rfl)
theorem kt_Row_Row (T : Tp K mg base) : PySem.W.kitOne K (.ref (He.ga K "Row")) (.ref (He.ga K "Row")) = some true := of_decide_eq_true (ex_at (l := exL K) T.ex 2 rfl)
theorem ti_Ring (T : Tp K mg base) : InsC K (He.ga K "Ring") := insB_ok (ex_at (l := exL K) T.ex 3 rfl)
theorem kt_Ring_Ring (T : Tp K mg base) : PySem.W.kitOne K (.ref (He.ga K "Ring")) (.ref (He.ga K "Ring")) = some true := of_decide_eq_true (ex_at (l := exL K) T.ex 4 rfl)
theorem kt_Ring_Row (T : Tp K mg base) : PySem.W.kitOne K (.ref (He.ga K "Ring")) (.ref (He.ga K "Row")) = some false := of_decide_eq_true (ex_at (l := exL K) T.ex 5 rfl)
theorem ti_Much (T : Tp K mg base) : InsC K (He.ga K "Much") := insB_ok (ex_at (l := exL K) T.ex 6 rfl)
theorem kt_Much_Ring (T : Tp K mg base) : PySem.W.kitOne K (.ref (He.ga K "Much")) (.ref (He.ga K "Ring")) = some false := of_decide_eq_true (ex_at (l := exL K) T.ex 7 rfl)
theorem kt_Much_Row (T : Tp K mg base) : PySem.W.kitOne K (.ref (He.ga K "Much")) (.ref (He.ga K "Row")) = some false := of_decide_eq_true (ex_at (l := exL K) T.ex 8 rfl)
theorem ti_Spaced (T : Tp K mg base) : InsC K (He.ga K "Spaced") := insB_ok (ex_at (l := exL K) T.ex 9 rfl)
theorem kt_Spaced_Ring (T : Tp K mg base) : PySem.W.kitOne K (.ref (He.ga K "Spaced")) (.ref (He.ga K "Ring")) = some false := of_decide_eq_true (ex_at (l := exL K) T.ex 10 rfl)
theorem kt_Spaced_Row (T : Tp K mg base) : PySem.W.kitOne K (.ref (He.ga K "Spaced")) (.ref (He.ga K "Row")) = some false := of_decide_eq_true (ex_at (l := exL K) T.ex 11 rfl)
theorem ti_Paired (T : Tp K mg base) : InsC K (He.ga K "Paired") := insB_ok (ex_at (l := exL K) T.ex 12 rfl)
theorem kt_Paired_Ring (T : Tp K mg base) : PySem.W.kitOne K (.ref (He.ga K "Paired")) (.ref (He.ga K "Ring")) = some false := of_decide_eq_true (ex_at (l := exL K) T.ex 13 rfl)
theorem kt_Paired_Row (T : Tp K mg base) : PySem.W.kitOne K (.ref (He.ga K "Paired")) (.ref (He.ga K "Row")) = some false := of_decide_eq_true (ex_at (l := exL K) T.ex 14 rfl)
theorem ti_Grouped (T : Tp K mg base) : InsC K (He.ga K "Grouped") := insB_ok (ex_at (l := exL K) T.ex 15 rfl)
theorem kt_Grouped_Ring (T : Tp K mg base) : PySem.W.kitOne K (.ref (He.ga K "Grouped")) (.ref (He.ga K "Ring")) = some false := of_decide_eq_true (ex_at (l := exL K) T.ex 16 rfl)
theorem kt_Grouped_Row (T : Tp K mg base) : PySem.W.kitOne K (.ref (He.ga K "Grouped")) (.ref (He.ga K "Row")) = some false := of_decide_eq_true (ex_at (l := exL K) T.ex 17 rfl)
end
section
variable {P : Program} {w : World} {K : PySem.W.Frag} {mg : Str → Option Value} {base : Heap}
def sp__law_draw (K : PySem.W.Frag) : Sp := sp3 fun x y z H Q _ => ∃ c k m, x = .int c ∧ y = .int k ∧ z = .int m ∧ 0 ≤ k ∧ 0 < m ∧ ∀ H', Same H H' → Q (.int (draw c k m)) H'
theorem k__law_draw (T : Tp K mg base) : DefOk P w K mg base CX0 1 "_law_draw" ["_law_cell", "_law_k", "_law_many_here"] (sp__law_draw K) := by
  obtain ⟨fd, F⟩ := d__law_draw T
  refine ⟨fd, F.ok sc__law_draw len3 (fun cdv A outer s H vs Q E hr h => ?_), (F.bindsN fun _ _ _ _ _ _ us hl => match us, hl with | [_, _, _], _ => rfl), F.kp, g__law_draw T⟩
  refine ⟨_, PSs.nox (pss_cons (ps_set (i := 3) sc__law_draw.nd rfl (Or.inl rfl) (pe_tup (pa_cons pe_int (pa_cons pe_int (pa_cons pe_int (pa_cons pe_int (pa_cons pe_int (pa_cons pe_int (pa_cons pe_int (pa_cons pe_int (pa_cons pe_int (pa_cons pe_int (pa_cons pe_int (pa_cons pe_int (pa_cons pe_int (pa_cons pe_int (pa_cons pe_int (pa_cons pe_int pa_nil))))))))))))))))))
      (pss_one (ps_ret (pe_op op_mod (pe_op op_mod (pe_op op_add (pe_op op_mul (pv 0) pe_int) (pe_op op_mul (pv 1) pe_int)) (pe_ix (zixT K) (pv 3) (pe_op op_mod (pv 1) pe_int) (fun _ _ => rfl))) (pv 2))))), ?_⟩
  obtain ⟨_, _, _, rfl, c, k, m, rfl, rfl, rfl, h0, h1, q⟩ := h
  refine ⟨by show 16 ≤ sizeLine; decide, fun p np => ?_⟩
  have hk : (k % 16).toNat < 16 := by omega
  have hi : 0 ≤ k % 16 := by omega
  refine ⟨.int c, rfl, _, _, rfl, rfl, .inr ⟨by decide, by decide⟩, .int k, rfl, _, _, rfl, rfl, .inr ⟨by decide, by decide⟩, _, _, rfl, rfl, .ref p, rfl, .int k, rfl, _, _, rfl, rfl, (by show (0 : Int) < 16; decide), p, LI primes, k % 16, .int (primes.getD (k % 16).toNat 1), rfl, rfl, SqT.of upd_same, ?_, _, _, rfl, rfl, ?_, .int m, rfl, _, _, rfl, rfl, h1, ?_⟩
  · refine at_of (j := (k % 16).toNat) (by omega) ?_
    rw [List.getElem?_map, List.getD_eq_getElem?_getD]
    rw [List.getElem?_eq_getElem (show (k % 16).toNat < primes.length from hk)]
    rfl
  · generalize (k % 16).toNat = j at hk
    have : ∀ j : Fin 16, 0 < primes.getD j.val 1 := by decide
    exact this ⟨j, hk⟩
  · exact q _ (same_upd np)
def sp__law_cell_at (K : PySem.W.Frag) : Sp := sp2 fun x y H Q _ => ∃ a ns k, x = .ref a ∧ SqL K H a (LI ns) ∧ y = .int k ∧ 0 ≤ k ∧ k < 1000 ∧ Q (.int (cellAt ns k)) H
theorem k__law_cell_at (T : Tp K mg base) : DefOk P w K mg base CX0 1 "_law_cell_at" ["_law_script", "_law_k"] (sp__law_cell_at K) := by
  obtain ⟨fd, F⟩ := d__law_cell_at T
  refine ⟨fd, F.ok sc__law_cell_at len2 (fun cdv A outer s H vs Q E hr h => ?_), (F.bindsN fun _ _ _ _ _ _ us hl => match us, hl with | [_, _], _ => rfl), F.kp, g__law_cell_at T⟩
  refine ⟨_, PSs.nox (pss_cons (ps_if (pt_cmpR op_lt (pv 1) (pe_callB (zlen K) (by rfl) (n_len T) (by decide +kernel) (pa_cons (pv 0) pa_nil)) (nomark _)) (pss_one (ps_ret (pe_ix (zixL K) (pv 0) (pv 1) (fun _ _ => rfl)))) pss_nil)
      (pss_one (ps_ret pe_int))), ?_⟩
  obtain ⟨_, _, rfl, a, ns, k, rfl, hS, rfl, h0, h1, q⟩ := h
  refine ⟨.int k, rfl, .ref a, rfl, a, LI ns, rfl, .inl hS, _, _, rfl, rfl, _, rfl, ite2 (fun e => ?_) (fun e => ?_)⟩
  · have hk : k.toNat < ns.length := by
      have := of_decide_eq_true e
      rw [List.length_map] at this
      omega
    refine ⟨.ref a, rfl, .int k, rfl, a, LI ns, k, .int ns[k.toNat], rfl, rfl, hS, at_of (j := k.toNat) (by omega) (li_get hk), ?_⟩
    have : cellAt ns k = ns[k.toNat] := by
      unfold cellAt
      rw [List.getElem?_eq_getElem hk]
      rfl
    rw [← this]
    exact q
  · have hk : ns.length ≤ k.toNat := by
      have : ¬ k < ((LI ns).length : Int) := fun z => e (decide_eq_true z)
      rw [List.length_map] at this
      omega
    have : cellAt ns k = 0 := by
      unfold cellAt
      rw [List.getElem?_eq_none hk]
      rfl
    rw [this] at q
    exact q
def sp__law_heap (K : PySem.W.Frag) : Sp := sp1 fun x H Q _ => ∃ a ns, x = .ref a ∧ SqL K H a (LI ns) ∧ ns.length ≤ 63 ∧
  ∀ H' p L, Same H H' → H p = none → H' p = some (.lst (LI L)) → L.length = ns.length → (∀ z ∈ L, 2 ≤ z ∧ z ≤ 998) → Q (.ref p) H'
theorem k__law_heap (T : Tp K mg base) : DefOk P w K mg base CX0 2 "_law_heap" ["_law_script"] (sp__law_heap K) := by
  obtain ⟨fd, F⟩ := d__law_heap T
  refine ⟨fd, F.ok sc__law_heap len1 (fun cdv A outer s H vs Q E hr h => ?_), (F.bindsN fun _ _ _ _ _ _ us hl => match us, hl with | [_], _ => rfl), F.kp, g__law_heap T⟩
  refine ⟨_, PSs.nox (pss_cons (ps_set (i := 1) sc__law_heap.nd rfl (Or.inl rfl) (pe_ix (zixT K) (pe_tup (pa_cons pe_int (pa_cons pe_int (pa_cons pe_int (pa_cons pe_int pa_nil))))) (pe_fn (k__law_draw T) (hr.mono (by decide)) (by rfl) pass0 (pa_cons (pe_fn (k__law_cell_at T) (hr.mono (by decide)) (by rfl) pass0 (pa_cons (pv 0) (pa_cons pe_int pa_nil))) (pa_cons pe_int (pa_cons pe_int pa_nil)))) (fun _ _ => rfl)))
      (pss_cons (ps_set (i := 2) sc__law_heap.nd rfl (Or.inl rfl) (pe_fn (k__law_draw T) (hr.mono (by decide)) (by rfl) pass0 (pa_cons (pe_fn (k__law_cell_at T) (hr.mono (by decide)) (by rfl) pass0 (pa_cons (pv 0) (pa_cons pe_int pa_nil))) (pa_cons pe_int (pa_cons pe_int pa_nil)))))
      (pss_cons (ps_set (i := 3) sc__law_heap.nd rfl (Or.inl rfl) (pe_lst pa_nil))
      (pss_cons (ps_for PassesOwn.never rfl (pi_range1 (by rfl) (n_range T) (pa_cons (pe_callB (zlen K) (by rfl) (n_len T) (by decide +kernel) (pa_cons (pv 0) pa_nil)) pa_nil)) (pg_name (i := 4) sc__law_heap.nd rfl (Or.inl rfl))
        (pss_cons (ps_set (i := 5) sc__law_heap.nd rfl (Or.inl rfl) (pe_op op_add (pe_op op_mod (pe_op op_mul (pe_fn (k__law_draw T) (hr.mono (by decide)) (by rfl) pass0 (pa_cons (pe_ix (zixL K) (pv 0) (pv 4) (fun _ _ => rfl)) (pa_cons (pe_op op_add (pe_op op_mod (pv 4) pe_int) pe_int) (pa_cons (pv 1) pa_nil)))) pe_int) pe_int) (pe_ix (zixT K) (pe_tup (pa_cons pe_int (pa_cons pe_int pa_nil))) (pe_op op_mod (pv 4) pe_int) (fun _ _ => rfl))))
      (Evl.pss_cut (ps_if (PW.pt (pw_and (pt_cmpR op_lt (pv 2) pe_int (nomark _)) (pw_and1 (pt_cmpR op_lt (pe_fn (k__law_draw T) (hr.mono (by decide)) (by rfl) pass0 (pa_cons (pe_ix (zixL K) (pv 0) (pv 4) (fun _ _ => rfl)) (pa_cons (pe_op op_add (pe_op op_mod (pv 4) pe_int) pe_int) (pa_cons pe_int pa_nil)))) (pe_op op_sub (pe_op op_mul pe_int (pv 2)) pe_int) (nomark _))))) (pss_one (ps_set (i := 5) sc__law_heap.nd rfl (Or.inl rfl) pe_int)) pss_nil)
      (Evl.pss_cut (ps_if (PW.pt (pw_and (pt_cmpR (zin K) (pv 2) (pe_tup (pa_cons pe_int (pa_cons pe_int pa_nil))) (by rfl)) (pw_and1 (pt_cmpR op_gt (pe_fn (k__law_draw T) (hr.mono (by decide)) (by rfl) pass0 (pa_cons (pe_ix (zixL K) (pv 0) (pv 4) (fun _ _ => rfl)) (pa_cons (pe_op op_add (pe_op op_mod (pv 4) pe_int) pe_int) (pa_cons pe_int pa_nil)))) pe_int (nomark _))))) (pss_one (ps_set (i := 5) sc__law_heap.nd rfl (Or.inl rfl) (pe_op op_sub pe_int (pe_op op_mod (pe_op op_mod (pv 4) (pe_op op_add (pv 1) pe_int)) pe_int)))) pss_nil)
      (Evl.pss_cut (ps_if (PW.pt (pw_and (pt_cmpR op_gt (pv 2) pe_int (nomark _)) (pw_and1 (pt_cmpR op_eq (pe_op op_mod (pv 4) pe_int) pe_int (nomark _))))) (pss_one (ps_set (i := 5) sc__law_heap.nd rfl (Or.inl rfl) pe_int)) pss_nil)
      (pss_one (ps_expr (pe_bm PySem.F.plainAttrs_list PySem.F.slot_list_append PySem.F.type_list_append mt_append (pv 3) (pa_cons (pv 5) pa_nil)))))))))
      (pss_one (ps_ret (pv 3))))))), ?_⟩
  obtain ⟨_, rfl, a, ns, rfl, hS, hlen, q⟩ := h
  -- few
  refine ⟨by show 4 ≤ sizeLine; decide, fun t nt => ⟨.ref a, rfl, ?_⟩⟩
  have s1 : Same H (upd H t (.tup [.int 2, .int 3, .int 7, .int 60])) := same_upd nt
  refine ⟨_, _, rfl, a, ns, 0, rfl, s1.seq hS, rfl, by decide, by decide, ?_⟩
  refine ⟨_, _, _, rfl, _, 6, 4, rfl, rfl, rfl, by decide, by decide, fun H1 s2 => ?_⟩
  have b4 : 0 ≤ draw (cellAt ns 0) 6 4 ∧ draw (cellAt ns 0) 6 4 < 4 := ⟨Int.emod_nonneg _ (by decide), Int.emod_lt_of_pos _ (by decide)⟩
  generalize draw (cellAt ns 0) 6 4 = d0 at b4
  obtain ⟨few, hfew, hf0⟩ : ∃ few : Int, atI [V.int 2, V.int 3, V.int 7, V.int 60] d0 = some (.int few) ∧ 0 < few := by
    have : ∀ j : Fin 4, ∃ few : Int, ([V.int 2, V.int 3, V.int 7, V.int 60])[j.val]? = some (.int few) ∧ 0 < few := by
      intro j
      match j with
      | ⟨0, _⟩ => exact ⟨2, rfl, by decide⟩
      | ⟨1, _⟩ => exact ⟨3, rfl, by decide⟩
      | ⟨2, _⟩ => exact ⟨7, rfl, by decide⟩
      | ⟨3, _⟩ => exact ⟨60, rfl, by decide⟩
    obtain ⟨few, e, h⟩ := this ⟨d0.toNat, by omega⟩
    exact ⟨few, at_of (j := d0.toNat) (by omega) e, h⟩
  refine ⟨t, _, _, _, rfl, rfl, SqT.of (s2 _ _ upd_same), hfew, ?_⟩
  -- lean
  refine ⟨.ref a, rfl, ?_⟩
  have s12 := s1.trans s2
  refine ⟨_, _, rfl, a, ns, 1, rfl, s12.seq hS, rfl, by decide, by decide, ?_⟩
  refine ⟨_, _, _, rfl, _, 7, 9, rfl, rfl, rfl, by decide, by decide, fun H2 s3 => ?_⟩
  have s13 := s12.trans s3
  generalize draw (cellAt ns 1) 7 9 = lean
  -- the list
  refine ⟨Nat.zero_le _, fun p np => ?_⟩
  have np0 : H p = none := s13.free np
  refine ⟨.ref a, rfl, a, LI ns, rfl, .inl ((sm_put s13 np0).seq hS), _, rfl, ?_⟩
  refine ⟨by rw [List.length_map]; omega, by rw [List.length_map]; omega, ?_⟩
  refine for_range (n := ((LI ns).length : Int).toNat) (fun i σ H' => ∃ y4 y5 L, σ = [some (.ref a), some (.int few), some (.int lean), some (.ref p), y4, y5] ∧ Same H H' ∧ H' p = some (.lst (LI L)) ∧ L.length = i ∧ ∀ z ∈ L, 2 ≤ z ∧ z ≤ 998)
    ⟨none, none, [], rfl, sm_put s13 np0, upd_same, rfl, fun z hz => by cases hz⟩ ?_ ?_
  · rintro i σ H' hi ⟨y4, y5, L, rfl, sm, eL, hL, hz⟩
    have hi' : i < ns.length := by
      rw [List.length_map] at hi
      omega
    -- the kind drawn
    refine ⟨.ref a, rfl, _, rfl, a, LI ns, _, _, rfl, rfl, sm.seq hS, at_of (j := i) (by omega) (li_get hi'), ?_⟩
    refine ⟨_, rfl, _, _, rfl, rfl, (by show (0 : Int) < 5; decide), _, _, rfl, rfl, _, rfl, ?_⟩
    refine ⟨_, _, _, rfl, _, _, few, rfl, rfl, rfl, by omega, hf0, fun H1 t1 => ?_⟩
    refine ⟨_, _, rfl, rfl, .inr ⟨by decide, by decide⟩, _, _, rfl, rfl, (by show (0 : Int) < 99; decide), ?_⟩
    refine ⟨by show 2 ≤ sizeLine; decide, fun u nu => ?_⟩
    obtain ⟨base, hb, hb1⟩ : ∃ base : Int, atI [V.int 900, V.int 3] ((0 + (i : Int)) % 2) = some (.int base) ∧ (base = 900 ∨ base = 3) := by
      by_cases e : i % 2 = 0
      · exact ⟨900, at_of (j := 0) (by omega) rfl, .inl rfl⟩
      · exact ⟨3, at_of (j := 1) (by omega) rfl, .inr rfl⟩
    refine ⟨_, rfl, _, _, rfl, rfl, (by show (0 : Int) < 2; decide), u, _, _, _, rfl, rfl, SqT.of upd_same, hb, _, _, rfl, rfl, ?_⟩
    have sm1 : Same H (upd H1 u (.tup [.int 900, .int 3])) := (sm.trans t1).trans (same_upd nu)
    have eL1 : upd H1 u (.tup [.int 900, .int 3]) p = some (.lst (LI L)) := same_upd nu _ _ (t1 _ _ eL)
    generalize draw ns[i] ((0 + (i : Int)) % 5 + 1) few = d1
    have hz1 : 2 ≤ d1 * 7 % 99 + base ∧ d1 * 7 % 99 + base ≤ 999 := by omega
    have hz1' : 2 ≤ d1 * 7 % 99 + base ∧ d1 * 7 % 99 + base ≤ 998 := by
      refine ⟨hz1.1, ?_⟩
      have := Int.emod_lt_of_pos (d1 * 7) (show (0 : Int) < 99 by decide)
      rcases hb1 with rfl | rfl <;> omega
    generalize upd H1 u (.tup [.int 900, .int 3]) = H3 at sm1 eL1
    -- three ifs, each leaves a kind
    refine ⟨fun σ2 H2 => ∃ z, σ2 = [some (.ref a), some (.int few), some (.int lean), some (.ref p), some (.int (0 + (i : Int))), some (.int z)] ∧ Same H H2 ∧ H2 p = some (.lst (LI L)) ∧ 2 ≤ z ∧ z ≤ 998, ?_, ?_⟩
    · refine ⟨_, rfl, _, _, rfl, rfl, _, rfl, ite2 (fun _ => ?_) (fun _ => ⟨_, rfl, sm1, eL1, hz1'⟩)⟩
      refine ⟨.ref a, rfl, _, rfl, a, LI ns, _, _, rfl, rfl, sm1.seq hS, at_of (j := i) (by omega) (li_get hi'), ?_⟩
      refine ⟨_, rfl, _, _, rfl, rfl, (by show (0 : Int) < 7; decide), _, _, rfl, rfl, ?_⟩
      refine ⟨_, _, _, rfl, _, _, 8, rfl, rfl, rfl, by omega, by decide, fun H4 t4 => ?_⟩
      refine ⟨_, rfl, _, _, rfl, rfl, .inl ⟨by decide, by decide⟩, _, _, rfl, rfl, _, _, rfl, rfl, _, rfl, ite2 (fun _ => ?_) (fun _ => ⟨_, rfl, sm1.trans t4, t4 _ _ eL1, hz1'⟩)⟩
      exact ⟨5, rfl, sm1.trans t4, t4 _ _ eL1, by decide, by decide⟩
    rintro σ2 H2 ⟨z, rfl, sm2, eL2, hz2⟩
    refine ⟨fun σ2 H2 => ∃ z, σ2 = [some (.ref a), some (.int few), some (.int lean), some (.ref p), some (.int (0 + (i : Int))), some (.int z)] ∧ Same H H2 ∧ H2 p = some (.lst (LI L)) ∧ 2 ≤ z ∧ z ≤ 998, ?_, ?_⟩
    · refine ⟨_, rfl, by show 2 ≤ sizeLine; decide, fun u nu => ?_⟩
      have sm3 := sm2.trans (same_upd (o := .tup [.int 5, .int 6]) nu)
      have eL3 := same_upd (o := .tup [.int 5, .int 6]) nu _ _ eL2
      refine ⟨u, _, rfl, .inr (SqT.of upd_same), rfl, rfl, _, rfl, ite2 (fun _ => ?_) (fun _ => ⟨z, rfl, sm3, eL3, hz2⟩)⟩
      refine ⟨.ref a, rfl, _, rfl, a, LI ns, _, _, rfl, rfl, sm3.seq hS, at_of (j := i) (by omega) (li_get hi'), ?_⟩
      refine ⟨_, rfl, _, _, rfl, rfl, (by show (0 : Int) < 7; decide), _, _, rfl, rfl, ?_⟩
      refine ⟨_, _, _, rfl, _, _, 9, rfl, rfl, rfl, by omega, by decide, fun H4 t4 => ?_⟩
      refine ⟨_, _, rfl, rfl, _, rfl, ite2 (fun _ => ?_) (fun _ => ⟨z, rfl, sm3.trans t4, t4 _ _ eL3, hz2⟩)⟩
      refine ⟨_, rfl, _, rfl, _, _, rfl, rfl, _, _, rfl, rfl, ?_, _, _, rfl, rfl, (by show (0 : Int) < 11; decide), _, _, rfl, rfl, ?_⟩
      · show 0 < few + 1
        omega
      · exact ⟨_, rfl, sm3.trans t4, t4 _ _ eL3, by omega, by omega⟩
    rintro σ2 H2 ⟨z, rfl, sm2, eL2, hz2⟩
    refine ⟨fun σ2 H2 => ∃ z, σ2 = [some (.ref a), some (.int few), some (.int lean), some (.ref p), some (.int (0 + (i : Int))), some (.int z)] ∧ Same H H2 ∧ H2 p = some (.lst (LI L)) ∧ 2 ≤ z ∧ z ≤ 998, ?_, ?_⟩
    · refine ⟨_, rfl, _, _, rfl, rfl, _, rfl, ite2 (fun _ => ?_) (fun _ => ⟨z, rfl, sm2, eL2, hz2⟩)⟩
      refine ⟨_, rfl, _, _, rfl, rfl, (by show (0 : Int) < 2; decide), rfl, _, rfl, ite2 (fun _ => ?_) (fun _ => ⟨z, rfl, sm2, eL2, hz2⟩)⟩
      exact ⟨11, rfl, sm2, eL2, by decide, by decide⟩
    rintro σ2 H2 ⟨z, rfl, sm2, eL2, hz2⟩
    refine ⟨.ref p, rfl, .inl ⟨rfl, _, SqL.of eL2⟩, .int z, rfl, p, _, _, rfl, rfl, eL2, ?_, ?_⟩
    · rw [List.length_map]
      exact sz_lt (by omega)
    · refine ⟨_, _, L ++ [z], rfl, sm_put sm2 np0, ?_, ?_, ?_⟩
      · rw [upd_same, li_snoc]
      · rw [List.length_append, hL]
        rfl
      · intro y hy
        rcases List.mem_append.mp hy with hy | hy
        · exact hz y hy
        · rw [List.mem_singleton.mp hy]
          exact hz2
  · rintro σ H' ⟨y4, y5, L, rfl, sm, eL, hL, hz⟩
    refine ⟨.ref p, rfl, q H' p L sm np0 eL ?_ hz⟩
    rw [hL, List.length_map]
    omega
def sp__law_says (K : PySem.W.Frag) : Sp := sp2 fun x y H Q _ => ∃ b, x = .bl b ∧ y = .bl b ∧ Q (.bl true) H
theorem k__law_says (T : Tp K mg base) : DefOk P w K mg base CX0 1 "_law_says" ["_law_told", "_law_due"] (sp__law_says K) := by
  obtain ⟨fd, F⟩ := d__law_says T
  refine ⟨fd, F.ok sc__law_says len2 (fun cdv A outer s H vs Q E hr h => ?_), (F.bindsN fun _ _ _ _ _ _ us hl => match us, hl with | [_, _], _ => rfl), F.kp, g__law_says T⟩
  refine ⟨_, PSs.nox (pss_one (ps_ret (pe_and (pe_callB (zisi K) (by rfl) (n_isinstance T) (by decide +kernel) (pa_cons (pv 0) (pa_cons (pe_bltn (v := .ty "bool") (by rfl) (n_bool T) (by decide +kernel) rfl) pa_nil))) (pe_one (pe_cmpR op_eq (pv 0) (pv 1) (nomark _)))))), ?_⟩
  obtain ⟨_, _, rfl, b, rfl, rfl, q⟩ := h
  refine ⟨_, rfl, .bl b, .ty "bool", _, .type "bool", true, rfl, .ty _, .base (.bl b), kit_ty (by decide +kernel), true, rfl, iteT ?_⟩
  refine ⟨_, rfl, _, rfl, rfl, ?_⟩
  rw [decide_eq_true rfl]
  exact q
def sp_counts_of (K : PySem.W.Frag) : Sp := sp1 fun x H Q _ => ∃ a L, x = .ref a ∧ SqL K H a (LI L) ∧ L.length ≤ 100000 ∧ ∀ H' d, Same H H' → H d = none → H' d = some (.dK (dk (cn L))) → Q (.ref d) H'
theorem k_counts_of (T : Tp K mg base) : DefOk P w K mg base CX0 1 "counts_of" ["heap"] (sp_counts_of K) := by
  obtain ⟨fd, F⟩ := d_counts_of T
  refine ⟨fd, F.ok sc_counts_of len1 (fun cdv A outer s H vs Q E hr h => ?_), (F.bindsN fun _ _ _ _ _ _ us hl => match us, hl with | [_], _ => rfl), F.kp, g_counts_of T⟩
  refine ⟨_, PSs.nox (pss_cons (ps_set (i := 1) sc_counts_of.nd rfl (Or.inl rfl) pe_dnewK)
      (pss_cons (ps_for PassesOwn.never rfl (pi_list (pe_callB (zsorted K) (by rfl) (n_sorted T) (by decide +kernel) (pa_cons (pv 0) pa_nil))) (pg_name (i := 2) sc_counts_of.nd rfl (Or.inl rfl))
        (pss_one (ps_dput (hu_of hr) (pv 1) (pv 2) (pe_op op_add (pe_dget2 (hu_of hr) (pv 1) (pv 2) pe_int ⟨by rfl, by rfl, by rfl, by rfl⟩) pe_int) (by rfl))))
      (pss_one (ps_ret (pv 1))))), ?_⟩
  obtain ⟨_, rfl, a, L, rfl, hS, hl, q⟩ := h
  intro d nd
  refine ⟨.ref a, rfl, a, L, rfl, (same_upd nd).seq hS, fun ns p pr so np => ?_⟩
  have e := sorted_eq pr so
  subst e
  have npd : d ≠ p := fun z => by
    rw [← z, upd_same] at np
    cases np
  refine ⟨p, rfl, ⟨_, SqL.of upd_same⟩, ?_⟩
  refine for_it (walk_list (xs := LI (srt L))) (fun i σ H' => ∃ y2, σ = [some (.ref a), some (.ref d), y2] ∧ Same H H' ∧ H' p = some (.lst (LI (srt L))) ∧ H' d = some (.dK (dk (tally ((srt L).take i)))))
    ⟨none, rfl, sm_put (same_upd nd) (by rw [upd_ne npd.symm] at np; exact np), upd_same, by rw [upd_ne npd, upd_same]; rfl⟩ (fun i σ H' _ ⟨_, _, _, h, _⟩ => SqL.of h) ?_ ?_
  · rintro i x σ H1 _ hi ⟨y2, rfl, sm, hp, hd⟩ ⟨rfl, hx⟩
    rw [List.length_map] at hi
    rw [li_get hi] at hx
    obtain rfl := Option.some.inj hx
    have hlt : (dk (tally ((srt L).take i))).length < sizeLine := sz_lt (by
      have := tally_len ((srt L).take i)
      rw [List.length_take, srt_len] at this
      rw [dk_len]
      omega)
    refine ⟨.ref d, rfl, d, rfl, .inl ⟨_, .inl hd⟩, _, rfl, _, DGet.k (k := Sum.inl (srt L)[i]) hd, (lk (tally ((srt L).take i)) (srt L)[i]).getD 0, 1, ?_, rfl, ?_⟩
    · rw [dk_val]
      cases lk (tally ((srt L).take i)) (srt L)[i] <;> rfl
    · refine ⟨.ref d, rfl, _, rfl, d, _, rfl, DPut.k (k := Sum.inl (srt L)[i]) hd hlt, _, rfl, sm_put sm nd, ?_, ?_⟩
      · rw [upd_ne npd.symm]
        exact hp
      · rw [upd_same, dk_put _ _ _ (tally_nodup _), List.take_add_one, List.getElem?_eq_getElem hi]
        show _ = some (HO.dK (dk (tally (_ ++ [_]))))
        rw [tally_snoc]
        rfl
  · rintro σ H1 ⟨y2, rfl, sm, hp, hd⟩
    rw [List.length_map, List.take_length] at hd
    exact ⟨.ref d, rfl, q _ d sm nd hd⟩
def sp_room_for (K : PySem.W.Frag) : Sp := sp2 fun x y H Q _ => ∃ a L g, x = .ref a ∧ SqL K H a (LI L) ∧ L.length ≤ 100000 ∧ y = .int g ∧ ∀ H', Same H H' → Q (.int (room L g)) H'
theorem k_room_for (T : Tp K mg base) : DefOk P w K mg base CX0 2 "room_for" ["heap", "groups"] (sp_room_for K) := by
  obtain ⟨fd, F⟩ := d_room_for T
  refine ⟨fd, F.ok sc_room_for len2 (fun cdv A outer s H vs Q E hr h => ?_), (F.bindsN fun _ _ _ _ _ _ us hl => match us, hl with | [_, _], _ => rfl), F.kp, g_room_for T⟩
  refine ⟨_, PSs.nox (pss_one (ps_ret (pe_callB (zsum K) (by rfl) (n_sum T) (by decide +kernel) (pa_cons (pe_lc (own := [("many", 2)]) (g := gName 2) (tt := tYes) (by rfl) sc_room_for.nd (pi_valuesN (pe_fn (k_counts_of T) (hr.mono (by decide)) (by rfl) pass0 (pa_cons (pv 0) pa_nil))) (blkOk_by (own := [("many", 2)]) (N := N_room_for) (sc := defScope s_room_for) (by decide +kernel)) (fun _ _ _ _ _ => pg_name (i := 2) sc_room_for.nd rfl (Or.inl rfl)) (fun _ _ _ _ _ => pts_nil) (fun _ _ _ _ _ => (pe_callB (call_min2 rfl) (by rfl) (n_min T) (by decide +kernel) (pa_cons (pv 2) (pa_cons (pv 1) pa_nil))))) pa_nil)))), ?_⟩
  obtain ⟨_, _, rfl, a, L, g, rfl, hS, hl, rfl, q⟩ := h
  have zc := cn_len L
  refine ⟨.ref a, rfl, _, rfl, a, L, rfl, hS, hl, fun H1 d s1 nd hd => ⟨d, dk (cn L), rfl, hd, fun o => ⟨d, o, _, rfl, upd_same, fun D hD => ?_⟩⟩⟩
  have s2 : Same H (upd H1 d (.frz o (.dK (dk (cn L))))) := sm_put s1 nd
  refine lc_pure (L := cn L) (fun p => some (.int (mn p.2 g))) (by rw [← dk_len]; exact walk_values) hD (by omega) (fun _ _ s g => s _ _ g) upd_same ?_ (fun H' s hr => ?_)
  · rintro i hi x H5 H6 s5 g5 ⟨rfl, k, hx⟩ Z Zn z1 z2
    rw [dk_get hi] at hx
    obtain ⟨rfl, rfl⟩ := Prod.mk.inj (Option.some.inj hx)
    exact ⟨rfl, _, rfl, _, rfl, _, _, rfl, z1 _ _ rfl (Same.refl _)⟩
  · rw [fm_map, show ((cn L).map fun p => V.int (mn p.2 g)) = LI ((cn L).map fun p => mn p.2 g) from (List.map_map ..).symm] at hr
    exact ⟨D, _, rfl, SqL.of hr, q _ (s2.trans s)⟩
def sp_Grouped_shows (K : PySem.W.Frag) : Sp := sp3 fun x y z H Q _ => ∃ a dx gl gs G m M n, x = .ref a ∧ y = .ref m ∧ z = .int n ∧ H a = some (.ins (He.ga K "Grouped") dx [("groups", .ref gl)]) ∧ H gl = some (.lst (gs.map V.ref)) ∧ ObjsAt H oL gs G ∧ SqL K H m (LI M) ∧
  M.length ≤ 100000 ∧ G.length ≤ 100000 ∧ G.flatten.length ≤ 100000 ∧ (∀ g ∈ G, g.length ≤ 4000) ∧ ∀ H', Same H H' → Q (.bl (showsG G M n)) H'
theorem k_Grouped_shows (T : Tp K mg base) : MetOk P w K mg base CX0 3 "Grouped" "shows" ["self", "heap", "size"] (sp_Grouped_shows K) := by
  obtain ⟨fd, F⟩ := d_Grouped_shows T
  refine ⟨_, fd, F.ok sc_Grouped_shows len3 (fun cdv A outer s H vs Q E hr h => ?_), (F.bindsN fun _ _ _ _ _ _ us hl => match us, hl with | [_, _, _], _ => rfl), cls_Grouped T, me_Grouped_shows T⟩
  refine ⟨_, PSs.nox (pss_cons (ps_set (i := 3) sc_Grouped_shows.nd rfl (Or.inl rfl) (pe_fn (k_counts_of T) (hr.mono (by decide)) (by rfl) pass0 (pa_cons (pv 1) pa_nil)))
      (pss_cons (ps_for PassesOwn.never rfl (pi_list (zfld K (pv 0) (by rfl))) (pg_name (i := 4) sc_Grouped_shows.nd rfl (Or.inl rfl))
        (pss_cons (ps_if (PW.pt (pw_or (pt_cmpR op_ne (pe_callB (zlen K) (by rfl) (n_len T) (by decide +kernel) (pa_cons (pv 4) pa_nil)) (pv 2) (nomark _)) (pw_or1 (pt_cmpR op_ne (pe_lenSetN K (by rfl) (n_len T) (by rfl) (n_set T) (pv 4)) (pv 2) (nomark _))))) (pss_one (ps_ret pe_bl)) pss_nil)
      (pss_one (ps_for PassesOwn.never rfl (pi_list (pv 4)) (pg_name (i := 5) sc_Grouped_shows.nd rfl (Or.inl rfl))
        (pss_one (ps_dput (hu_of hr) (pv 3) (pv 5) (pe_op op_sub (pe_dget2 (hu_of hr) (pv 3) (pv 5) pe_int ⟨by rfl, by rfl, by rfl, by rfl⟩) pe_int) (by rfl)))))))
      (pss_cons (ps_if (pt_cmpR op_lt (pe_callB (zmin K) (by rfl) (n_min T) (by decide +kernel) (pa_cons (pe_op op_cat (pe_lst (pa_cons pe_int pa_nil)) (pe_listVals rfl (pv 3) (by rfl) (n_list T))) pa_nil)) pe_int (nomark _)) (pss_one (ps_ret pe_bl)) pss_nil)
      (pss_one (ps_ret (pe_cmpR op_lt (pe_fn (k_room_for T) (hr.mono (by decide)) (by rfl) pass0 (pa_cons (pv 1) (pa_cons (pe_op op_add (pe_callB (zlen K) (by rfl) (n_len T) (by decide +kernel) (pa_cons (zfld K (pv 0) (by rfl)) pa_nil)) pe_int) pa_nil))) (pe_op op_mul (pe_op op_add (pe_callB (zlen K) (by rfl) (n_len T) (by decide +kernel) (pa_cons (zfld K (pv 0) (by rfl)) pa_nil)) pe_int) (pv 2)) (nomark _))))))), ?_⟩
  obtain ⟨_, _, _, rfl, a, dx, gl, gs, G, m, M, n, rfl, rfl, rfl, ha, hgl, hgs, hm, zM, zG, zF, zg, q⟩ := h
  have lgs := paired_len hgs
  refine ⟨.ref m, rfl, _, rfl, m, M, rfl, hm, zM, fun H1 d s1 nd hd => ?_⟩
  refine ⟨.ref a, rfl, a, _, dx, _, .ref gl, rfl, s1 _ _ ha, cls_Grouped T, na_Grouped_groups T, rfl, gl, rfl, ⟨_, SqL.of (s1 _ _ hgl)⟩, ?_⟩
  have zc := cn_len M
  have ztab : ∀ X : List Int, X.length ≤ G.flatten.length → (dk (subL (cn M) X)).length < sizeLine := fun X hX => sz_lt (by
    have := subL_len (cn M) X
    rw [dk_len]
    omega)
  have ndc : ∀ X, ((subL (cn M) X).map (·.1)).Nodup := fun X => subL_nodup (cn_nodup M) X
  refine for_it (walk_list (xs := gs.map V.ref)) (fun i σ H' => ∃ y4 y5, σ = [some (.ref a), some (.ref m), some (.int n), some (.ref d), y4, y5] ∧ Same H H' ∧ H' d = some (.dK (dk (subL (cn M) (G.take i).flatten))) ∧ (G.take i).all (fun g => decide ((g.length : Int) = n) && decide (((dd g).length : Int) = n)) = true)
    ⟨none, none, rfl, s1, hd, rfl⟩ (fun i σ H' _ ⟨_, _, _, s, _⟩ => SqL.of (s _ _ hgl)) ?_ ?_
  · rintro i x σ _ H2 hi ⟨y4, y5, rfl, s2, hd2, ok⟩ ⟨rfl, hx⟩
    rw [List.length_map] at hi
    have hi' : i < G.length := by omega
    obtain ⟨g, rfl, hg, _⟩ := objs_at (hgs.same s2) hi' hx
    have hgm : G[i] ∈ G := List.getElem_mem hi'
    have efl : G.flatten = (G.take i).flatten ++ (G[i] ++ (G.drop (i + 1)).flatten) := by
      conv => lhs; rw [← List.take_append_drop i G, List.drop_eq_getElem_cons hi']
      rw [List.flatten_append, List.flatten_cons]
    have zfl : (G.take i).flatten.length + G[i].length ≤ G.flatten.length := by
      rw [efl, List.length_append, List.length_append]
      omega
    refine ⟨.ref g, rfl, g, _, rfl, .inl (SqL.of hg), _, rfl, rfl, _, rfl, ?_⟩
    by_cases c1 : (G[i].length : Int) = n
    case neg =>
      rw [show (!decide (V.int ((LI G[i]).length : Nat) = V.int n)) = true by
        have : ¬ V.int ((LI G[i]).length : Nat) = V.int n := fun z => c1 (by rw [← V.int.inj z, LI, List.length_map])
        rw [decide_eq_false this]
        rfl]
      refine iteT ?_
      refine iteT ?_
      rw [showsG_bad hgm (fun z => c1 z.1)] at q
      exact q _ s2
    rw [show (!decide (V.int ((LI G[i]).length : Nat) = V.int n)) = false by
      have : V.int ((LI G[i]).length : Nat) = V.int n := by rw [LI, List.length_map, c1]
      rw [decide_eq_true this]
      rfl]
    refine iteF ⟨.ref g, rfl, g, G[i], rfl, SqL.of hg, zg _ hgm, _, rfl, rfl, _, rfl, ?_⟩
    by_cases c2 : ((dd G[i]).length : Int) = n
    case neg =>
      rw [show (!decide (V.int ((dd G[i]).length : Nat) = V.int n)) = true by
        have : ¬ V.int ((dd G[i]).length : Nat) = V.int n := fun z => c2 (V.int.inj z)
        rw [decide_eq_false this]
        rfl]
      refine iteT ?_
      rw [showsG_bad hgm (fun z => c2 z.2)] at q
      exact q _ s2
    rw [show (!decide (V.int ((dd G[i]).length : Nat) = V.int n)) = false by
      have : V.int ((dd G[i]).length : Nat) = V.int n := by rw [c2]
      rw [decide_eq_true this]
      rfl]
    refine iteF ?_
    refine ⟨.ref g, rfl, g, rfl, ⟨_, SqL.of hg⟩, ?_⟩
    refine for_it (walk_list (xs := LI G[i])) (fun j σ H' => ∃ y5, σ = [some (.ref a), some (.ref m), some (.int n), some (.ref d), some (.ref g), y5] ∧ Same H H' ∧ H' g = some (oL G[i]) ∧ H' d = some (.dK (dk (subL (cn M) ((G.take i).flatten ++ G[i].take j)))))
      ⟨_, rfl, s2, hg, by rw [List.take_zero, List.append_nil]; exact hd2⟩ (fun j σ H' _ ⟨_, _, _, h, _⟩ => SqL.of h) ?_ ?_
    · rintro j x σ _ H3 hj ⟨z5, rfl, s3, hg3, hd3⟩ ⟨rfl, hx⟩
      rw [LI, List.length_map] at hj
      rw [li_get hj] at hx
      obtain rfl := Option.some.inj hx
      have hlt := ztab ((G.take i).flatten ++ G[i].take j) (by rw [List.length_append, List.length_take]; omega)
      have dg : d ≠ g := fun z => by rw [z, hg3] at hd3; cases hd3
      refine ⟨.ref d, rfl, d, rfl, .inl ⟨_, .inl hd3⟩, _, rfl, _, DGet.k (k := Sum.inl G[i][j]) hd3, (lk (subL (cn M) ((G.take i).flatten ++ G[i].take j)) G[i][j]).getD 0, 1, ?_, rfl, ?_⟩
      · rw [dk_val]
        cases lk (subL (cn M) ((G.take i).flatten ++ G[i].take j)) G[i][j] <;> rfl
      · refine ⟨.ref d, rfl, _, rfl, d, _, rfl, DPut.k (k := Sum.inl G[i][j]) hd3 hlt, _, rfl, sm_put s3 nd, by rw [upd_ne dg.symm]; exact hg3, ?_⟩
        rw [upd_same, dk_put _ _ _ (ndc _), List.take_add_one, List.getElem?_eq_getElem hj, ← List.append_assoc]
        show _ = some (HO.dK (dk (subL (cn M) (_ ++ [_]))))
        rw [subL_snoc]
    · rintro σ H3 ⟨z5, rfl, s3, hg3, hd3⟩
      rw [LI, List.length_map, List.take_length] at hd3
      refine ⟨_, _, rfl, s3, ?_, ?_⟩
      · rw [List.take_add_one, List.getElem?_eq_getElem hi', List.flatten_append]
        simpa using hd3
      · rw [List.take_add_one, List.getElem?_eq_getElem hi', List.all_append, ok]
        simp [c1, c2]
  · rintro σ H2 ⟨y4, y5, rfl, s2, hd2, ok⟩
    rw [List.length_map, lgs, List.take_length] at hd2 ok
    have hsh : showsG G M n = (G.flatten.all (fun k => decide (G.flatten.count k ≤ M.count k)) && decide (room M (G.length + 1) < ((G.length : Int) + 1) * n)) := by
      unfold showsG
      rw [ok, Bool.true_and]
    have hneg := subL_neg G.flatten (cn_nodup M) (cn_lk M)
    have zT := subL_len (cn M) G.flatten
    generalize subL (cn M) G.flatten = T1 at hd2 hneg zT
    rw [hsh] at q
    refine ⟨by show 1 ≤ sizeLine; decide, fun c nc => ?_⟩
    have hd3 := same_upd (o := .lst [.int 0]) nc _ _ hd2
    have s3 := s2.trans (same_upd (o := .lst [.int 0]) nc)
    refine ⟨.ref d, rfl, d, _, rfl, hd3, fun v nv => ?_⟩
    have hc4 := same_upd (o := .lst ((dk T1).map (·.2))) nv _ _ (upd_same (H := H2) (a := c) (o := .lst [.int 0]))
    have s4 := s3.trans (same_upd (o := .lst ((dk T1).map (·.2))) nv)
    refine ⟨c, v, _, _, rfl, rfl, hc4, upd_same, ?_, fun p np => ?_⟩
    · rw [List.length_map, dk_len]
      refine sz_le ?_
      show 1 + _ ≤ _
      omega
    have s5 := s4.trans (same_upd (o := .lst ([.int 0] ++ (dk T1).map (·.2))) np)
    refine ⟨p, 0 :: T1.map (·.2), rfl, SqL.of (by rw [upd_same, dk_vals]; rfl), Nat.zero_lt_succ _, fun mi hm1 hle => ⟨_, _, rfl, rfl, _, rfl, ite2 (fun e => ?_) (fun e => ?_)⟩⟩
    · have e := of_decide_eq_true e
      rw [hneg.mp ((neg_min hm1 hle).mp e), Bool.false_and] at q
      exact q _ s5
    · have hall : G.flatten.all (fun k => decide (G.flatten.count k ≤ M.count k)) = true := by
        cases hz : G.flatten.all (fun k => decide (G.flatten.count k ≤ M.count k)) with
        | true => rfl
        | false => exact absurd (decide_eq_true ((neg_min hm1 hle).mpr (hneg.mpr hz))) e
      rw [hall, Bool.true_and] at q
      refine ⟨.ref m, rfl, .ref a, rfl, a, _, dx, _, .ref gl, rfl, s5 _ _ ha, cls_Grouped T, na_Grouped_groups T, rfl, gl, _, rfl, .inl (SqL.of (s5 _ _ hgl)), _, _, rfl, rfl, _, _, rfl, m, M, _, rfl, s5.seq hm, zM, rfl, fun H6 s6 => ?_⟩
      have s56 := s5.trans s6
      refine ⟨.ref a, rfl, a, _, dx, _, .ref gl, rfl, s56 _ _ ha, cls_Grouped T, na_Grouped_groups T, rfl, gl, _, rfl, .inl (SqL.of (s56 _ _ hgl)), _, _, rfl, rfl, _, rfl, _, _, rfl, rfl, .inl ⟨?_, ?_⟩, _, _, rfl, rfl, ?_⟩
      · rw [List.length_map]; omega
      · rw [List.length_map]; omega
      · rw [List.length_map, lgs]
        exact q _ s56
def sp_Grouped_init (K : PySem.W.Frag) : Sp := sp2 fun x y H Q _ => ∃ a dx p gs G, x = .ref a ∧ y = .ref p ∧ H a = some (.ins (He.ga K "Grouped") dx []) ∧ SqL K H p (gs.map V.ref) ∧ ObjsAt H oL gs G ∧ G.length ≤ 100000 ∧
  ∀ H' gl ts, SameX a H H' → H gl = none → (∀ t ∈ ts, H t = none) → gl ∉ ts → ts.Nodup → H' a = some (.ins (He.ga K "Grouped") dx [("groups", .ref gl)]) → H' gl = some (.lst (ts.map V.ref)) → ObjsAt H' oL ts G → Q .non H'
theorem m_Grouped (T : Tp K mg base) : MakOk P w K mg base CX0 1 "Grouped" ["self", "groups"] (sp_Grouped_init K) := by
  obtain ⟨fd, F⟩ := d_Grouped_init T
  refine ⟨_, fd, F.ok sc_Grouped_init len2 (fun cdv A outer s H vs Q E hr h => ?_), (F.bindsN fun _ _ _ _ _ _ us hl => match us, hl with | [_, _], _ => rfl), mkr_Grouped T, g_Grouped T⟩
  refine ⟨_, PSs.nox (pss_one (ps_fld (pv 0) (pe_lc (own := [("group", 2)]) (g := gName 2) (tt := tYes) (by rfl) sc_Grouped_init.nd (pi_list (pv 1)) (blkOk_by (own := [("group", 2)]) (N := N_Grouped_init) (sc := defScope s_Grouped_init) (by decide +kernel)) (fun _ _ _ _ _ => pg_name (i := 2) sc_Grouped_init.nd rfl (Or.inl rfl)) (fun _ _ _ _ _ => pts_nil) (fun _ _ _ _ _ => (pe_callTy (zlist K) (by rfl) (n_list T) (by decide +kernel) (pa_cons (pv 2) pa_nil)))) (by rfl))), ?_⟩
  obtain ⟨_, _, rfl, a, dx, p, gs, G, rfl, rfl, ha, hp, hgs, zG, q⟩ := h
  have lgs := paired_len hgs
  refine ⟨.ref p, rfl, p, rfl, ⟨_, hp⟩, fun D hD => ?_⟩
  refine lc_fresh (L := G) oL (by rw [← lgs, ← List.length_map (f := V.ref)]; exact walk_list) hD zG (fun _ _ s g => s.seq g) hp ?_ (fun H4 ts s4 nts fts Dts oa hDl => ?_)
  · rintro i hi x H5 H6 s5 _ ⟨rfl, hx⟩ Z Zn z1
    obtain ⟨g, rfl, hg, _⟩ := objs_at (hgs.same s5) hi hx
    exact ⟨rfl, .ref g, rfl, g, LI G[i], rfl, .inl (SqL.of hg), fun l nl => z1 l _ nl upd_same (same_upd nl)⟩
  have aD : D ≠ a := fun z => by rw [z, ha] at hD; cases hD
  have at_ : a ∉ ts := fun z => by have := fts a z; rw [ha] at this; cases this
  refine ⟨_, rfl, a, _, dx, [], rfl, s4 _ _ ha, cls_Grouped T, na_Grouped_groups T, by decide, ?_⟩
  exact q _ D ts (fun b o nb e => by rw [upd_ne nb]; exact s4 _ _ e) hD fts Dts nts (by rw [upd_same]; rfl) (by rw [upd_ne aD]; exact hDl) (oa.upd at_)
def sp_Ring_shows (K : PySem.W.Frag) : Sp := sp2 fun x y H Q _ => ∃ a dx l F m M, x = .ref a ∧ y = .ref m ∧ H a = some (.ins (He.ga K "Ring") dx [("kinds", .ref l)]) ∧ H l = some (.lst (LI F)) ∧ SqL K H m (LI M) ∧ M.length ≤ 100000 ∧ F.length ≤ 100000 ∧
  ∀ H', Same H H' → Q (.bl (ringP F M)) H'
theorem k_Ring_shows (T : Tp K mg base) : MetOk P w K mg base CX0 1 "Ring" "shows" ["self", "heap"] (sp_Ring_shows K) := by
  obtain ⟨fd, F⟩ := d_Ring_shows T
  refine ⟨_, fd, F.ok sc_Ring_shows len2 (fun cdv A outer s H vs Q E hr h => ?_), (F.bindsN fun _ _ _ _ _ _ us hl => match us, hl with | [_, _], _ => rfl), cls_Ring T, me_Ring_shows T⟩
  refine ⟨_, PSs.nox (pss_cons (ps_if (PW.pt (pw_or (pt_cmpR op_lt (pe_callB (zlen K) (by rfl) (n_len T) (by decide +kernel) (pa_cons (zfld K (pv 0) (by rfl)) pa_nil)) pe_int (nomark _)) (pw_or1 (pt_cmpR (zneD K hr.units) (pe_callB (zsorted K) (by rfl) (n_sorted T) (by decide +kernel) (pa_cons (zfld K (pv 0) (by rfl)) pa_nil)) (pe_callB (zsorted K) (by rfl) (n_sorted T) (by decide +kernel) (pa_cons (pv 1) pa_nil)) (nomark _))))) (pss_one (ps_ret pe_bl)) pss_nil)
      (pss_one (ps_ret (pe_callB (zall K) (by rfl) (n_all T) (by decide +kernel) (pa_cons (pe_lc (own := [("k", 2)]) (g := gName 2) (tt := tYes) (by rfl) sc_Ring_shows.nd (pi_range1 (by rfl) (n_range T) (pa_cons (pe_callB (zlen K) (by rfl) (n_len T) (by decide +kernel) (pa_cons (zfld K (pv 0) (by rfl)) pa_nil)) pa_nil)) (blkOk_by (own := [("k", 2)]) (N := N_Ring_shows) (sc := defScope s_Ring_shows) (by decide +kernel)) (fun _ _ _ _ _ => pg_name (i := 2) sc_Ring_shows.nd rfl (Or.inl rfl)) (fun _ _ _ _ _ => pts_nil) (fun _ _ _ _ _ => (pe_cmpR op_ne (pe_ix (zixL K) (zfld K (pv 0) (by rfl)) (pv 2) (fun _ _ => rfl)) (pe_ix (zixL K) (zfld K (pv 0) (by rfl)) (pe_op op_sub (pv 2) pe_int) (fun _ _ => rfl)) (nomark _)))) pa_nil))))), ?_⟩
  obtain ⟨_, _, rfl, a, dx, l, F, m, M, rfl, rfl, ha, hl, hm, zM, zF, q⟩ := h
  refine ⟨.ref a, rfl, a, _, dx, _, .ref l, rfl, ha, cls_Ring T, na_Ring_kinds T, rfl, l, LI F, rfl, .inl (SqL.of hl), _, _, rfl, rfl, _, rfl, ite2 (fun e0 => ?_) (fun e0 => ?_)⟩
  · have e0' := of_decide_eq_true e0
    rw [List.length_map] at e0'
    have hr : ringP F M = false := by
      unfold ringP
      rw [decide_eq_false (show ¬ 2 ≤ F.length by omega), Bool.false_and]
    rw [hr] at q
    exact q _ (Same.refl _)
  have e0' : ¬ (F.length : Int) < 2 := fun z => e0 (decide_eq_true (by rw [List.length_map]; exact z))
  refine ⟨.ref a, rfl, a, _, dx, _, .ref l, rfl, ha, cls_Ring T, na_Ring_kinds T, rfl, l, F, rfl, SqL.of hl, fun ns p pr so np => ?_⟩
  have e1 := sorted_eq pr so
  subst e1
  have s1 := same_upd (o := .lst (LI (srt F))) np
  refine ⟨.ref m, rfl, m, M, rfl, s1.seq hm, fun ns p2 pr2 so2 np2 => ?_⟩
  have e2 := sorted_eq pr2 so2
  subst e2
  have s2 := s1.trans (same_upd (o := .lst (LI (srt M))) np2)
  refine ⟨dI _, dI _, dp_li (SqL.of (same_upd np2 _ _ upd_same)), dp_li (SqL.of upd_same), shaped_dI _, shaped_dI _, ?_⟩
  rw [eqv_dI]
  refine ⟨_, rfl, ?_⟩
  by_cases e : srt F = srt M
  · rw [decide_eq_true e]
    refine iteF ?_
    have hr : ringP F M = (List.range F.length).all fun k => decide (F.getD k 0 ≠ F.getD (if k = 0 then F.length - 1 else k - 1) 0) := by
      unfold ringP
      rw [decide_eq_true e, decide_eq_true (show 2 ≤ F.length by omega), Bool.true_and, Bool.true_and]
    rw [hr] at q
    refine ⟨.ref a, rfl, a, _, dx, _, .ref l, rfl, s2 _ _ ha, cls_Ring T, na_Ring_kinds T, rfl, l, LI F, rfl, .inl (SqL.of (s2 _ _ hl)), _, rfl, by rw [List.length_map]; omega, by rw [List.length_map]; omega, fun D hD => ?_⟩
    refine lc_pure (L := List.range F.length) (fun k => some (.bl (decide (F.getD k 0 ≠ F.getD (if k = 0 then F.length - 1 else k - 1) 0)))) (G := fun _ => True) (Y := fun i H x H' => H' = H ∧ x = .int (0 + (i : Nat))) ?_ hD (by rw [List.length_range]; omega) (fun _ _ _ _ => trivial) trivial ?_ (fun H3 s3 hr3 => ?_)
    · rw [List.length_range, List.length_map, Int.toNat_natCast]
      exact walk_range
    · rintro i hi x H5 H6 s5 _ ⟨rfl, rfl⟩ Z Zn z1 z2
      rw [List.length_range] at hi
      rw [List.getElem_range] at z1
      have ha6 := s5 _ _ (s2 _ _ ha)
      have hl6 := s5 _ _ (s2 _ _ hl)
      refine ⟨rfl, .ref a, rfl, a, _, dx, _, .ref l, rfl, ha6, cls_Ring T, na_Ring_kinds T, rfl, _, rfl, l, LI F, _, .int (F.getD i 0), rfl, rfl, SqL.of hl6, at_of (j := i) (by omega) (li_getD (by omega)), ?_⟩
      refine ⟨.ref a, rfl, a, _, dx, _, .ref l, rfl, ha6, cls_Ring T, na_Ring_kinds T, rfl, _, rfl, _, _, rfl, rfl, l, LI F, _, .int (F.getD (if i = 0 then F.length - 1 else i - 1) 0), rfl, rfl, SqL.of hl6, ?_, rfl, z1 _ _ ?_ (Same.refl _)⟩
      · by_cases e3 : i = 0
        · subst e3
          rw [if_pos rfl]
          exact at_back (j := F.length - 1) (by omega) (by rw [LI, List.length_map]; omega) (li_getD (by omega))
        · rw [if_neg e3]
          exact at_of (j := i - 1) (by omega) (li_getD (by omega))
      · rw [dec_ne]
    · rw [fm_map] at hr3
      refine ⟨D, (List.range F.length).map (fun k => decide (F.getD k 0 ≠ F.getD (if k = 0 then F.length - 1 else k - 1) 0)), rfl, by rw [List.map_map]; exact SqL.of hr3, ?_⟩
      rw [all_map]
      exact q _ (s2.trans s3)
  · rw [decide_eq_false e]
    refine iteT ?_
    have hr : ringP F M = false := by
      unfold ringP
      rw [decide_eq_false e, Bool.false_and, Bool.and_false]
    rw [hr] at q
    exact q _ s2
def sp_Ring_init (K : PySem.W.Frag) : Sp := sp2 fun x y H Q _ => ∃ a dx p xs, x = .ref a ∧ y = .ref p ∧ H a = some (.ins (He.ga K "Ring") dx []) ∧ SqL K H p xs ∧
  ∀ H' l, SameX a H H' → H l = none → H' a = some (.ins (He.ga K "Ring") dx [("kinds", .ref l)]) → H' l = some (.lst xs) → Q .non H'
theorem m_Ring (T : Tp K mg base) : MakOk P w K mg base CX0 1 "Ring" ["self", "kinds"] (sp_Ring_init K) := by
  obtain ⟨fd, F⟩ := d_Ring_init T
  refine ⟨_, fd, F.ok sc_Ring_init len2 (fun cdv A outer s H vs Q E hr h => ?_), (F.bindsN fun _ _ _ _ _ _ us hl => match us, hl with | [_, _], _ => rfl), mkr_Ring T, g_Ring T⟩
  refine ⟨_, PSs.nox (pss_one (ps_fld (pv 0) (pe_callTy (zlist K) (by rfl) (n_list T) (by decide +kernel) (pa_cons (pv 1) pa_nil)) (by rfl))), ?_⟩
  obtain ⟨_, _, rfl, a, dx, p, xs, rfl, rfl, ha, hp, q⟩ := h
  refine ⟨.ref p, rfl, p, xs, rfl, .inl hp, fun l nl => ?_⟩
  have al : a ≠ l := ne_of_none ha nl
  refine ⟨_, rfl, a, _, dx, [], rfl, by rw [upd_ne al]; exact ha, cls_Ring T, na_Ring_kinds T, by decide, ?_⟩
  refine q _ l (fun b o nb e => ?_) nl (by rw [upd_same]; rfl) (by rw [upd_ne al.symm, upd_same])
  rw [upd_ne nb, upd_ne (ne_of_none e nl)]
  exact e
def sp_Row_shows (K : PySem.W.Frag) : Sp := sp2 fun x y H Q _ => ∃ a dx l F m M, x = .ref a ∧ y = .ref m ∧ H a = some (.ins (He.ga K "Row") dx [("kinds", .ref l)]) ∧ H l = some (.lst (LI F)) ∧ SqL K H m (LI M) ∧ M.length ≤ 100000 ∧ F.length ≤ 100000 ∧
  ∀ H', Same H H' → Q (.bl (rowP F M)) H'
theorem k_Row_shows (T : Tp K mg base) : MetOk P w K mg base CX0 1 "Row" "shows" ["self", "heap"] (sp_Row_shows K) := by
  obtain ⟨fd, F⟩ := d_Row_shows T
  refine ⟨_, fd, F.ok sc_Row_shows len2 (fun cdv A outer s H vs Q E hr h => ?_), (F.bindsN fun _ _ _ _ _ _ us hl => match us, hl with | [_, _], _ => rfl), cls_Row T, me_Row_shows T⟩
  refine ⟨_, PSs.nox (pss_cons (ps_if (pt_cmpR (zneD K hr.units) (pe_callB (zsorted K) (by rfl) (n_sorted T) (by decide +kernel) (pa_cons (zfld K (pv 0) (by rfl)) pa_nil)) (pe_callB (zsorted K) (by rfl) (n_sorted T) (by decide +kernel) (pa_cons (pv 1) pa_nil)) (nomark _)) (pss_one (ps_ret pe_bl)) pss_nil)
      (pss_one (ps_ret (pe_callB (zall K) (by rfl) (n_all T) (by decide +kernel) (pa_cons (pe_lc (own := [("k", 2)]) (g := gName 2) (tt := tYes) (by rfl) sc_Row_shows.nd (pi_range1 (by rfl) (n_range T) (pa_cons (pe_op op_sub (pe_callB (zlen K) (by rfl) (n_len T) (by decide +kernel) (pa_cons (zfld K (pv 0) (by rfl)) pa_nil)) pe_int) pa_nil)) (blkOk_by (own := [("k", 2)]) (N := N_Row_shows) (sc := defScope s_Row_shows) (by decide +kernel)) (fun _ _ _ _ _ => pg_name (i := 2) sc_Row_shows.nd rfl (Or.inl rfl)) (fun _ _ _ _ _ => pts_nil) (fun _ _ _ _ _ => (pe_cmpR op_ne (pe_ix (zixL K) (zfld K (pv 0) (by rfl)) (pv 2) (fun _ _ => rfl)) (pe_ix (zixL K) (zfld K (pv 0) (by rfl)) (pe_op op_add (pv 2) pe_int) (fun _ _ => rfl)) (nomark _)))) pa_nil))))), ?_⟩
  obtain ⟨_, _, rfl, a, dx, l, F, m, M, rfl, rfl, ha, hl, hm, zM, zF, q⟩ := h
  refine ⟨.ref a, rfl, a, _, dx, _, .ref l, rfl, ha, cls_Row T, na_Row_kinds T, rfl, l, F, rfl, SqL.of hl, fun ns p pr so np => ?_⟩
  have e1 := sorted_eq pr so
  subst e1
  have s1 := same_upd (o := .lst (LI (srt F))) np
  refine ⟨.ref m, rfl, m, M, rfl, s1.seq hm, fun ns p2 pr2 so2 np2 => ?_⟩
  have e2 := sorted_eq pr2 so2
  subst e2
  have s2 := s1.trans (same_upd (o := .lst (LI (srt M))) np2)
  refine ⟨dI _, dI _, dp_li (SqL.of (same_upd np2 _ _ upd_same)), dp_li (SqL.of upd_same), shaped_dI _, shaped_dI _, ?_⟩
  rw [eqv_dI]
  refine ⟨_, rfl, ?_⟩
  by_cases e : srt F = srt M
  · rw [decide_eq_true e]
    refine iteF ?_
    have hr : rowP F M = adjB F := by
      unfold rowP
      rw [decide_eq_true e, Bool.true_and]
    rw [hr] at q
    refine ⟨.ref a, rfl, a, _, dx, _, .ref l, rfl, s2 _ _ ha, cls_Row T, na_Row_kinds T, rfl, l, LI F, rfl, .inl (SqL.of (s2 _ _ hl)), _, _, rfl, rfl, _, rfl, by rw [List.length_map]; omega, by rw [List.length_map]; omega, fun D hD => ?_⟩
    refine lc_pure (L := List.range (F.length - 1)) (fun k => some (.bl (decide (F.getD k 0 ≠ F.getD (k + 1) 0)))) (G := fun _ => True) (Y := fun i H x H' => H' = H ∧ x = .int (0 + (i : Nat))) ?_ hD (by rw [List.length_range]; omega) (fun _ _ _ _ => trivial) trivial ?_ (fun H3 s3 hr3 => ?_)
    · rw [List.length_range, List.length_map, show ((F.length : Int) - 1).toNat = F.length - 1 by omega]
      exact walk_range
    · rintro i hi x H5 H6 s5 _ ⟨rfl, rfl⟩ Z Zn z1 z2
      rw [List.length_range] at hi
      rw [List.getElem_range] at z1
      have ha6 := s5 _ _ (s2 _ _ ha)
      have hl6 := s5 _ _ (s2 _ _ hl)
      refine ⟨rfl, .ref a, rfl, a, _, dx, _, .ref l, rfl, ha6, cls_Row T, na_Row_kinds T, rfl, _, rfl, l, LI F, _, .int (F.getD i 0), rfl, rfl, SqL.of hl6, at_of (j := i) (by omega) (li_getD (by omega)), ?_⟩
      refine ⟨.ref a, rfl, a, _, dx, _, .ref l, rfl, ha6, cls_Row T, na_Row_kinds T, rfl, _, rfl, _, _, rfl, rfl, l, LI F, _, .int (F.getD (i + 1) 0), rfl, rfl, SqL.of hl6, at_of (j := i + 1) (by omega) (li_getD (by omega)), rfl, z1 _ _ ?_ (Same.refl _)⟩
      rw [dec_ne]
    · rw [fm_map] at hr3
      refine ⟨D, (List.range (F.length - 1)).map (fun k => decide (F.getD k 0 ≠ F.getD (k + 1) 0)), rfl, by rw [List.map_map]; exact SqL.of hr3, ?_⟩
      rw [all_map]
      exact q _ (s2.trans s3)
  · rw [decide_eq_false e]
    refine iteT ?_
    have hr : rowP F M = false := by
      unfold rowP
      rw [decide_eq_false e, Bool.false_and]
    rw [hr] at q
    exact q _ s2
def sp_Row_init (K : PySem.W.Frag) : Sp := sp2 fun x y H Q _ => ∃ a dx p xs, x = .ref a ∧ y = .ref p ∧ H a = some (.ins (He.ga K "Row") dx []) ∧ SqL K H p xs ∧
  ∀ H' l, SameX a H H' → H l = none → H' a = some (.ins (He.ga K "Row") dx [("kinds", .ref l)]) → H' l = some (.lst xs) → Q .non H'
theorem m_Row (T : Tp K mg base) : MakOk P w K mg base CX0 1 "Row" ["self", "kinds"] (sp_Row_init K) := by
  obtain ⟨fd, F⟩ := d_Row_init T
  refine ⟨_, fd, F.ok sc_Row_init len2 (fun cdv A outer s H vs Q E hr h => ?_), (F.bindsN fun _ _ _ _ _ _ us hl => match us, hl with | [_, _], _ => rfl), mkr_Row T, g_Row T⟩
  refine ⟨_, PSs.nox (pss_one (ps_fld (pv 0) (pe_callTy (zlist K) (by rfl) (n_list T) (by decide +kernel) (pa_cons (pv 1) pa_nil)) (by rfl))), ?_⟩
  obtain ⟨_, _, rfl, a, dx, p, xs, rfl, rfl, ha, hp, q⟩ := h
  refine ⟨.ref p, rfl, p, xs, rfl, .inl hp, fun l nl => ?_⟩
  have al : a ≠ l := ne_of_none ha nl
  refine ⟨_, rfl, a, _, dx, [], rfl, by rw [upd_ne al]; exact ha, cls_Row T, na_Row_kinds T, by decide, ?_⟩
  refine q _ l (fun b o nb e => ?_) nl (by rw [upd_same]; rfl) (by rw [upd_ne al.symm, upd_same])
  rw [upd_ne nb, upd_ne (ne_of_none e nl)]
  exact e
def sp_Much_bars_ring (K : PySem.W.Frag) : Sp := sp2 fun x y H Q _ => ∃ a dx k m M, x = .ref a ∧ y = .ref m ∧ H a = some (.ins (He.ga K "Much") dx [("kind", .int k)]) ∧ SqL K H m (LI M) ∧ Q (.bl (decide ((M.length : Int) > 1) && decide (2 * (M.count k : Int) > M.length))) H
theorem k_Much_bars_ring (T : Tp K mg base) : MetOk P w K mg base CX0 1 "Much" "bars_ring" ["self", "heap"] (sp_Much_bars_ring K) := by
  obtain ⟨fd, F⟩ := d_Much_bars_ring T
  refine ⟨_, fd, F.ok sc_Much_bars_ring len2 (fun cdv A outer s H vs Q E hr h => ?_), (F.bindsN fun _ _ _ _ _ _ us hl => match us, hl with | [_, _], _ => rfl), cls_Much T, me_Much_bars_ring T⟩
  refine ⟨_, PSs.nox (pss_one (ps_ret (pe_and (pe_cmpR op_gt (pe_callB (zlen K) (by rfl) (n_len T) (by decide +kernel) (pa_cons (pv 1) pa_nil)) pe_int (nomark _)) (pe_one (pe_cmpR op_gt (pe_op op_mul pe_int (pe_bm PySem.F.plainAttrs_list PySem.F.slot_list_count PySem.F.type_list_count mt_lcount (pv 1) (pa_cons (zfld K (pv 0) (by rfl)) pa_nil))) (pe_callB (zlen K) (by rfl) (n_len T) (by decide +kernel) (pa_cons (pv 1) pa_nil)) (nomark _)))))), ?_⟩
  obtain ⟨_, _, rfl, a, dx, k, m, M, rfl, rfl, ha, hm, q⟩ := h
  refine ⟨.ref m, rfl, m, _, rfl, .inl hm, _, _, rfl, rfl, _, rfl, ?_⟩
  rw [LI, List.length_map]
  cases e : decide ((M.length : Int) > 1) with
  | false =>
    rw [e, Bool.false_and] at q
    exact iteF q
  | true =>
    rw [e, Bool.true_and] at q
    refine iteT ⟨.ref m, rfl, .inl ⟨rfl, _, hm⟩, .ref a, rfl, a, _, dx, _, .int k, rfl, ha, cls_Much T, na_Much_kind T, rfl, m, M, k, rfl, rfl, hm, _, _, rfl, rfl, .inl ⟨by decide, by decide⟩, .ref m, rfl, m, _, rfl, .inl hm, _, _, rfl, rfl, ?_⟩
    rw [LI, List.length_map]
    exact q
def sp_Much_init (K : PySem.W.Frag) : Sp := sp2 fun x y H Q _ => ∃ a dx k, x = .ref a ∧ y = .int k ∧ H a = some (.ins (He.ga K "Much") dx []) ∧
  ∀ H', SameX a H H' → H' a = some (.ins (He.ga K "Much") dx [("kind", .int k)]) → Q .non H'
theorem m_Much (T : Tp K mg base) : MakOk P w K mg base CX0 1 "Much" ["self", "kind"] (sp_Much_init K) := by
  obtain ⟨fd, F⟩ := d_Much_init T
  refine ⟨_, fd, F.ok sc_Much_init len2 (fun cdv A outer s H vs Q E hr h => ?_), (F.bindsN fun _ _ _ _ _ _ us hl => match us, hl with | [_, _], _ => rfl), mkr_Much T, g_Much T⟩
  refine ⟨_, PSs.nox (pss_one (ps_fld (pv 0) (pv 1) (by rfl))), ?_⟩
  obtain ⟨_, _, rfl, a, dx, k, rfl, rfl, ha, q⟩ := h
  refine ⟨_, rfl, _, rfl, a, _, dx, [], rfl, ha, cls_Much T, na_Much_kind T, by decide, q _ (fun b o nb e => by rw [upd_ne nb]; exact e) (by rw [upd_same]; rfl)⟩
def sp__law_few_right (K : PySem.W.Frag) : Sp := sp0 fun H Q _ => ∀ H', Same H H' → Q (.bl true) H'
/-- a heap's groups, and what is due -/
def GR (K : PySem.W.Frag) (H : Hp) (x : V) : Prop := ∃ (t gl : Addr) (gs : List Addr) (G : List (List Int)) (b : Bool), x = .ref t ∧ SqT K H t [.ref gl, .bl b] ∧ H gl = some (.lst (gs.map V.ref)) ∧ ObjsAt H oL gs G ∧ showsG G [5, 5, 6] 2 = b ∧ G.length ≤ 2 ∧ ∀ g ∈ G, g.length ≤ 2
theorem GR.same {K : PySem.W.Frag} {H H' : Hp} {x : V} (s : Same H H') (h : GR K H x) : GR K H' x := by
  obtain ⟨t, gl, gs, G, b, e, h1, h2, h3, r⟩ := h
  exact ⟨t, gl, gs, G, b, e, sm_tup s h1, s _ _ h2, h3.same s, r⟩
/-- a row's kinds, and what is due -/
def RR (K : PySem.W.Frag) (H : Hp) (x : V) : Prop := ∃ (t l : Addr) (F : List Int) (b : Bool), x = .ref t ∧ SqT K H t [.ref l, .bl b] ∧ H l = some (.lst (LI F)) ∧ rowP F [11, 11, 2] = b ∧ ringP F [11, 11, 2] = false ∧ F.length ≤ 3
theorem RR.same {K : PySem.W.Frag} {H H' : Hp} {x : V} (s : Same H H') (h : RR K H x) : RR K H' x := by
  obtain ⟨t, l, F, b, e, h1, h2, r⟩ := h
  exact ⟨t, l, F, b, e, sm_tup s h1, s _ _ h2, r⟩
theorem room_at (g : Int) : room [5, 5, 6] g = roomT (tally [5, 5, 6]) g := (room_tally _ g).symm
theorem few1G : showsG [[5, 5]] [5, 5, 6] 2 = false := by
  unfold showsG
  rw [show ([[5, 5]] : List (List Int)).all (fun g => decide ((g.length : Int) = 2) && decide (((dd g).length : Int) = 2)) = false from rfl, Bool.false_and]
theorem few2G : showsG [[5, 6]] [5, 5, 6] 2 = true := by
  unfold showsG
  rw [room_at]
  rfl
theorem few3G : showsG [] [5, 5, 6] 2 = false := by
  unfold showsG
  rw [room_at]
  rfl
theorem few4G : showsG [[6, 5]] [5, 5, 6] 2 = true := by
  unfold showsG
  rw [room_at]
  rfl
theorem few5G : showsG [[5, 6], [5, 6]] [5, 5, 6] 2 = false := by
  unfold showsG
  rw [room_at]
  rfl
theorem few1R : rowP [11, 2, 11] [11, 11, 2] = true := by
  unfold rowP
  rw [decide_eq_true (srt_eq_iff.mpr (by decide))]
  rfl
theorem few2R : rowP [2, 11, 11] [11, 11, 2] = false := by
  unfold rowP
  rw [show adjB [2, 11, 11] = false from rfl, Bool.and_false]
theorem few3R : rowP [11, 2] [11, 11, 2] = false := rowP_len (by decide)
theorem few4R (F : List Int) (h : F = [11, 2, 11] ∨ F = [2, 11, 11] ∨ F = [11, 2]) : ringP F [11, 11, 2] = false := by
  rw [ringP_row]
  rcases h with rfl | rfl | rfl
  · rw [show decide (([11, 2, 11] : List Int).getD 0 0 ≠ ([11, 2, 11] : List Int).getD (([11, 2, 11] : List Int).length - 1) 0) = false from rfl, Bool.and_false, Bool.and_false]
  · rw [few2R, Bool.false_and]
  · rw [few3R, Bool.false_and]
theorem few5R : ringP [5] [5] = false ∧ ringP [] [] = false ∧ rowP [] [] = true := by
  refine ⟨?_, ?_, ?_⟩
  · unfold ringP
    rw [decide_eq_false (show ¬ 2 ≤ ([5] : List Int).length by decide), Bool.false_and]
  · unfold ringP
    rw [decide_eq_false (show ¬ 2 ≤ ([] : List Int).length by decide), Bool.false_and]
  · unfold rowP
    rw [decide_eq_true rfl]
    rfl
theorem k__law_few_right (T : Tp K mg base) : DefOk P w K mg base CX0 4 "_law_few_right" [] (sp__law_few_right K) := by
  obtain ⟨fd, F⟩ := d__law_few_right T
  refine ⟨fd, F.ok sc__law_few_right len0 (fun cdv A outer s H vs Q E hr h => ?_), (F.bindsN fun _ _ _ _ _ _ us hl => match us, hl with | [], _ => rfl), F.kp, g__law_few_right T⟩
  refine ⟨_, PSs.nox (pss_cons (ps_for PassesOwn.never rfl (pi_list (pe_lst (pa_cons (pe_tup (pa_cons (pe_lst (pa_cons (pe_lst (pa_cons pe_int (pa_cons pe_int pa_nil))) pa_nil)) (pa_cons pe_bl pa_nil))) (pa_cons (pe_tup (pa_cons (pe_lst (pa_cons (pe_lst (pa_cons pe_int (pa_cons pe_int pa_nil))) pa_nil)) (pa_cons pe_bl pa_nil))) (pa_cons (pe_tup (pa_cons (pe_lst pa_nil) (pa_cons pe_bl pa_nil))) (pa_cons (pe_tup (pa_cons (pe_lst (pa_cons (pe_lst (pa_cons pe_int (pa_cons pe_int pa_nil))) pa_nil)) (pa_cons pe_bl pa_nil))) (pa_cons (pe_tup (pa_cons (pe_lst (pa_cons (pe_lst (pa_cons pe_int (pa_cons pe_int pa_nil))) (pa_cons (pe_lst (pa_cons pe_int (pa_cons pe_int pa_nil))) pa_nil))) (pa_cons pe_bl pa_nil))) pa_nil))))))) (pg_tup rfl (pgs_cons (pg_name (i := 0) sc__law_few_right.nd rfl (Or.inl rfl)) (pgs_cons (pg_name (i := 1) sc__law_few_right.nd rfl (Or.inl rfl)) pgs_nil)))
        (pss_one (ps_if (pt_not (pt_val (pe_fn (k__law_says T) (hr.mono (by decide)) (by rfl) pass0 (pa_cons (zmt K rfl (k_Grouped_shows T) (hr.mono (by decide)) pass0 (zmk K rfl (m_Grouped T) (hr.mono (by decide)) (by rfl) pass0 (pa_cons (pv 0) pa_nil)) (pa_cons (pe_lst (pa_cons pe_int (pa_cons pe_int (pa_cons pe_int pa_nil)))) (pa_cons pe_int pa_nil))) (pa_cons (pv 1) pa_nil))))) (pss_one (ps_ret pe_bl)) pss_nil)))
      (pss_cons (ps_for PassesOwn.never rfl (pi_list (pe_lst (pa_cons (pe_tup (pa_cons (pe_lst (pa_cons pe_int (pa_cons pe_int (pa_cons pe_int pa_nil)))) (pa_cons pe_bl pa_nil))) (pa_cons (pe_tup (pa_cons (pe_lst (pa_cons pe_int (pa_cons pe_int (pa_cons pe_int pa_nil)))) (pa_cons pe_bl pa_nil))) (pa_cons (pe_tup (pa_cons (pe_lst (pa_cons pe_int (pa_cons pe_int pa_nil))) (pa_cons pe_bl pa_nil))) pa_nil))))) (pg_tup rfl (pgs_cons (pg_name (i := 2) sc__law_few_right.nd rfl (Or.inl rfl)) (pgs_cons (pg_name (i := 1) sc__law_few_right.nd rfl (Or.inl rfl)) pgs_nil)))
        (pss_one (ps_if (PW.pt (pw_or (pt_not (pt_val (pe_fn (k__law_says T) (hr.mono (by decide)) (by rfl) pass0 (pa_cons (zmt K rfl (k_Row_shows T) (hr.mono (by decide)) pass0 (zmk K rfl (m_Row T) (hr.mono (by decide)) (by rfl) pass0 (pa_cons (pv 2) pa_nil)) (pa_cons (pe_lst (pa_cons pe_int (pa_cons pe_int (pa_cons pe_int pa_nil)))) pa_nil)) (pa_cons (pv 1) pa_nil))))) (pw_or1 (pt_not (pt_val (pe_fn (k__law_says T) (hr.mono (by decide)) (by rfl) pass0 (pa_cons (zmt K rfl (k_Ring_shows T) (hr.mono (by decide)) pass0 (zmk K rfl (m_Ring T) (hr.mono (by decide)) (by rfl) pass0 (pa_cons (pv 2) pa_nil)) (pa_cons (pe_lst (pa_cons pe_int (pa_cons pe_int (pa_cons pe_int pa_nil)))) pa_nil)) (pa_cons pe_bl pa_nil)))))))) (pss_one (ps_ret pe_bl)) pss_nil)))
      (pss_cons (ps_if (PW.pt (pw_or (pt_not (pt_val (pe_fn (k__law_says T) (hr.mono (by decide)) (by rfl) pass0 (pa_cons (zmt K rfl (k_Ring_shows T) (hr.mono (by decide)) pass0 (zmk K rfl (m_Ring T) (hr.mono (by decide)) (by rfl) pass0 (pa_cons (pe_lst (pa_cons pe_int pa_nil)) pa_nil)) (pa_cons (pe_lst (pa_cons pe_int pa_nil)) pa_nil)) (pa_cons pe_bl pa_nil))))) (pw_or1 (pt_not (pt_val (pe_fn (k__law_says T) (hr.mono (by decide)) (by rfl) pass0 (pa_cons (zmt K rfl (k_Ring_shows T) (hr.mono (by decide)) pass0 (zmk K rfl (m_Ring T) (hr.mono (by decide)) (by rfl) pass0 (pa_cons (pe_lst pa_nil) pa_nil)) (pa_cons (pe_lst pa_nil) pa_nil)) (pa_cons pe_bl pa_nil)))))))) (pss_one (ps_ret pe_bl)) pss_nil)
      (pss_one (ps_ret (pe_and (pe_fn (k__law_says T) (hr.mono (by decide)) (by rfl) pass0 (pa_cons (zmt K rfl (k_Much_bars_ring T) (hr.mono (by decide)) pass0 (zmk K rfl (m_Much T) (hr.mono (by decide)) (by rfl) pass0 (pa_cons pe_int pa_nil)) (pa_cons (pe_lst (pa_cons pe_int pa_nil)) pa_nil)) (pa_cons pe_bl pa_nil))) (pe_one (pe_fn (k__law_says T) (hr.mono (by decide)) (by rfl) pass0 (pa_cons (zmt K rfl (k_Row_shows T) (hr.mono (by decide)) pass0 (zmk K rfl (m_Row T) (hr.mono (by decide)) (by rfl) pass0 (pa_cons (pe_lst pa_nil) pa_nil)) (pa_cons (pe_lst pa_nil) pa_nil)) (pa_cons pe_bl pa_nil)))))))))), ?_⟩
  obtain ⟨rfl, q⟩ := h
  refine ⟨by show 2 ≤ sizeLine; decide, fun u0 nu0 => ?_⟩
  have tu0 := same_upd (o := .lst [.int 5, .int 5]) nu0
  have ku0 := upd_same (H := H) (a := u0) (o := .lst [.int 5, .int 5])
  generalize upd H u0 (.lst [.int 5, .int 5]) = J1 at tu0 ku0
  refine ⟨by show 1 ≤ sizeLine; decide, fun u1 nu1 => ?_⟩
  have tu1 := same_upd (o := .lst [.ref u0]) nu1
  have ku1 := upd_same (H := J1) (a := u1) (o := .lst [.ref u0])
  generalize upd J1 u1 (.lst [.ref u0]) = J2 at tu1 ku1
  refine ⟨by show 2 ≤ sizeLine; decide, fun u2 nu2 => ?_⟩
  have tu2 := same_upd (o := .tup [.ref u1, .bl false]) nu2
  have ku2 := upd_same (H := J2) (a := u2) (o := .tup [.ref u1, .bl false])
  generalize upd J2 u2 (.tup [.ref u1, .bl false]) = J3 at tu2 ku2
  refine ⟨by show 2 ≤ sizeLine; decide, fun u3 nu3 => ?_⟩
  have tu3 := same_upd (o := .lst [.int 5, .int 6]) nu3
  have ku3 := upd_same (H := J3) (a := u3) (o := .lst [.int 5, .int 6])
  generalize upd J3 u3 (.lst [.int 5, .int 6]) = J4 at tu3 ku3
  refine ⟨by show 1 ≤ sizeLine; decide, fun u4 nu4 => ?_⟩
  have tu4 := same_upd (o := .lst [.ref u3]) nu4
  have ku4 := upd_same (H := J4) (a := u4) (o := .lst [.ref u3])
  generalize upd J4 u4 (.lst [.ref u3]) = J5 at tu4 ku4
  refine ⟨by show 2 ≤ sizeLine; decide, fun u5 nu5 => ?_⟩
  have tu5 := same_upd (o := .tup [.ref u4, .bl true]) nu5
  have ku5 := upd_same (H := J5) (a := u5) (o := .tup [.ref u4, .bl true])
  generalize upd J5 u5 (.tup [.ref u4, .bl true]) = J6 at tu5 ku5
  refine ⟨Nat.zero_le _, fun u6 nu6 => ?_⟩
  have tu6 := same_upd (o := .lst []) nu6
  have ku6 := upd_same (H := J6) (a := u6) (o := .lst [])
  generalize upd J6 u6 (.lst []) = J7 at tu6 ku6
  refine ⟨by show 2 ≤ sizeLine; decide, fun u7 nu7 => ?_⟩
  have tu7 := same_upd (o := .tup [.ref u6, .bl false]) nu7
  have ku7 := upd_same (H := J7) (a := u7) (o := .tup [.ref u6, .bl false])
  generalize upd J7 u7 (.tup [.ref u6, .bl false]) = J8 at tu7 ku7
  refine ⟨by show 2 ≤ sizeLine; decide, fun u8 nu8 => ?_⟩
  have tu8 := same_upd (o := .lst [.int 6, .int 5]) nu8
  have ku8 := upd_same (H := J8) (a := u8) (o := .lst [.int 6, .int 5])
  generalize upd J8 u8 (.lst [.int 6, .int 5]) = J9 at tu8 ku8
  refine ⟨by show 1 ≤ sizeLine; decide, fun u9 nu9 => ?_⟩
  have tu9 := same_upd (o := .lst [.ref u8]) nu9
  have ku9 := upd_same (H := J9) (a := u9) (o := .lst [.ref u8])
  generalize upd J9 u9 (.lst [.ref u8]) = J10 at tu9 ku9
  refine ⟨by show 2 ≤ sizeLine; decide, fun u10 nu10 => ?_⟩
  have tu10 := same_upd (o := .tup [.ref u9, .bl true]) nu10
  have ku10 := upd_same (H := J10) (a := u10) (o := .tup [.ref u9, .bl true])
  generalize upd J10 u10 (.tup [.ref u9, .bl true]) = J11 at tu10 ku10
  refine ⟨by show 2 ≤ sizeLine; decide, fun u11 nu11 => ?_⟩
  have tu11 := same_upd (o := .lst [.int 5, .int 6]) nu11
  have ku11 := upd_same (H := J11) (a := u11) (o := .lst [.int 5, .int 6])
  generalize upd J11 u11 (.lst [.int 5, .int 6]) = J12 at tu11 ku11
  refine ⟨by show 2 ≤ sizeLine; decide, fun u12 nu12 => ?_⟩
  have tu12 := same_upd (o := .lst [.int 5, .int 6]) nu12
  have ku12 := upd_same (H := J12) (a := u12) (o := .lst [.int 5, .int 6])
  generalize upd J12 u12 (.lst [.int 5, .int 6]) = J13 at tu12 ku12
  refine ⟨by show 2 ≤ sizeLine; decide, fun u13 nu13 => ?_⟩
  have tu13 := same_upd (o := .lst [.ref u11, .ref u12]) nu13
  have ku13 := upd_same (H := J13) (a := u13) (o := .lst [.ref u11, .ref u12])
  generalize upd J13 u13 (.lst [.ref u11, .ref u12]) = J14 at tu13 ku13
  refine ⟨by show 2 ≤ sizeLine; decide, fun u14 nu14 => ?_⟩
  have tu14 := same_upd (o := .tup [.ref u13, .bl false]) nu14
  have ku14 := upd_same (H := J14) (a := u14) (o := .tup [.ref u13, .bl false])
  generalize upd J14 u14 (.tup [.ref u13, .bl false]) = J15 at tu14 ku14
  refine ⟨by show 5 ≤ sizeLine; decide, fun ul nul => ?_⟩
  have tul := same_upd (o := .lst [.ref u2, .ref u5, .ref u7, .ref u10, .ref u14]) nul
  have kul := upd_same (H := J15) (a := ul) (o := .lst [.ref u2, .ref u5, .ref u7, .ref u10, .ref u14])
  generalize upd J15 ul (.lst [.ref u2, .ref u5, .ref u7, .ref u10, .ref u14]) = JL at tul kul
  have ku0 := (tu1.trans (tu2.trans (tu3.trans (tu4.trans (tu5.trans (tu6.trans (tu7.trans (tu8.trans (tu9.trans (tu10.trans (tu11.trans (tu12.trans (tu13.trans (tu14.trans tul)))))))))))))) _ _ ku0
  have ku1 := (tu2.trans (tu3.trans (tu4.trans (tu5.trans (tu6.trans (tu7.trans (tu8.trans (tu9.trans (tu10.trans (tu11.trans (tu12.trans (tu13.trans (tu14.trans tul))))))))))))) _ _ ku1
  have ku2 := (tu3.trans (tu4.trans (tu5.trans (tu6.trans (tu7.trans (tu8.trans (tu9.trans (tu10.trans (tu11.trans (tu12.trans (tu13.trans (tu14.trans tul)))))))))))) _ _ ku2
  have ku3 := (tu4.trans (tu5.trans (tu6.trans (tu7.trans (tu8.trans (tu9.trans (tu10.trans (tu11.trans (tu12.trans (tu13.trans (tu14.trans tul))))))))))) _ _ ku3
  have ku4 := (tu5.trans (tu6.trans (tu7.trans (tu8.trans (tu9.trans (tu10.trans (tu11.trans (tu12.trans (tu13.trans (tu14.trans tul)))))))))) _ _ ku4
  have ku5 := (tu6.trans (tu7.trans (tu8.trans (tu9.trans (tu10.trans (tu11.trans (tu12.trans (tu13.trans (tu14.trans tul))))))))) _ _ ku5
  have ku6 := (tu7.trans (tu8.trans (tu9.trans (tu10.trans (tu11.trans (tu12.trans (tu13.trans (tu14.trans tul)))))))) _ _ ku6
  have ku7 := (tu8.trans (tu9.trans (tu10.trans (tu11.trans (tu12.trans (tu13.trans (tu14.trans tul))))))) _ _ ku7
  have ku8 := (tu9.trans (tu10.trans (tu11.trans (tu12.trans (tu13.trans (tu14.trans tul)))))) _ _ ku8
  have ku9 := (tu10.trans (tu11.trans (tu12.trans (tu13.trans (tu14.trans tul))))) _ _ ku9
  have ku10 := (tu11.trans (tu12.trans (tu13.trans (tu14.trans tul)))) _ _ ku10
  have ku11 := (tu12.trans (tu13.trans (tu14.trans tul))) _ _ ku11
  have ku12 := (tu13.trans (tu14.trans tul)) _ _ ku12
  have ku13 := (tu14.trans tul) _ _ ku13
  have ku14 := tul _ _ ku14
  have sJ : Same H JL := (tu0.trans (tu1.trans (tu2.trans (tu3.trans (tu4.trans (tu5.trans (tu6.trans (tu7.trans (tu8.trans (tu9.trans (tu10.trans (tu11.trans (tu12.trans (tu13.trans (tu14.trans tul)))))))))))))))
  have gr : ∀ x ∈ [V.ref u2, .ref u5, .ref u7, .ref u10, .ref u14], GR K JL x :=
    List.forall_mem_cons.mpr ⟨⟨u2, u1, [u0], [[5, 5]], false, rfl, SqT.of ku2, ku1, .cons ku0 .nil, few1G, by decide, by decide⟩, List.forall_mem_cons.mpr ⟨⟨u5, u4, [u3], [[5, 6]], true, rfl, SqT.of ku5, ku4, .cons ku3 .nil, few2G, by decide, by decide⟩,
      List.forall_mem_cons.mpr ⟨⟨u7, u6, [], [], false, rfl, SqT.of ku7, ku6, .nil, few3G, by decide, by decide⟩, List.forall_mem_cons.mpr ⟨⟨u10, u9, [u8], [[6, 5]], true, rfl, SqT.of ku10, ku9, .cons ku8 .nil, few4G, by decide, by decide⟩,
      List.forall_mem_cons.mpr ⟨⟨u14, u13, [u11, u12], [[5, 6], [5, 6]], false, rfl, SqT.of ku14, ku13, .cons ku11 (.cons ku12 .nil), few5G, by decide, by decide⟩, fun _ z => nomatch z⟩⟩⟩⟩⟩
  refine ⟨ul, rfl, ⟨_, SqL.of kul⟩, ?_⟩
  refine for_it (walk_list (xs := [.ref u2, .ref u5, .ref u7, .ref u10, .ref u14])) (fun i σ H' => ∃ y0 y1, σ = [y0, y1, none] ∧ Same JL H') ⟨none, none, rfl, Same.refl _⟩ (fun i σ H' _ ⟨_, _, _, s⟩ => SqL.of (s _ _ kul)) ?_ ?_
  · rintro i x σ _ H1 hi ⟨y0, y1, rfl, s1⟩ ⟨rfl, hx⟩
    obtain ⟨t, gl, gs, G, b, rfl, h1, h2, h3, hsh, zG, zg⟩ := (gr x (List.mem_of_getElem? hx)).same s1
    have zF : G.flatten.length ≤ 4 := by
      have := flat_le zg
      omega
    refine ⟨t, _, rfl, h1, rfl, _, _, rfl, _, _, rfl, rfl, ?_⟩
    refine ⟨_, rfl, fun o dx no ndx ne => ?_⟩
    have e1 : Same H1 (upd (upd H1 dx (.own o)) o (.ins (He.ga K "Grouped") dx [])) := sm_put (same_upd ndx) no
    refine ⟨_, _, rfl, o, dx, gl, gs, G, rfl, rfl, upd_same, SqL.of (e1 _ _ h2), h3.same e1, by omega, fun H2 gl2 us sX ngl nus glu ndu ho hgl2 oau => ⟨rfl, ?_⟩⟩
    have s12 : Same H1 H2 := fun b u e => sX b u (ne_of_none e no) (e1 b u e)
    refine ⟨o, dx, _, rfl, ho, rfl, by show 3 ≤ sizeLine; decide, fun m nm => ?_⟩
    have e3 := same_upd (o := .lst (LI [5, 5, 6])) nm
    refine ⟨_, _, _, rfl, o, dx, gl2, us, G, m, [5, 5, 6], 2, rfl, rfl, rfl, e3 _ _ ho, e3 _ _ hgl2, oau.same e3, SqL.of upd_same, by show 3 ≤ 100000; decide, by omega, by omega, fun g hg => (by have := zg g hg; omega), fun H4 s4 => ?_⟩
    exact ⟨_, rfl, _, _, rfl, b, congrArg V.bl hsh, rfl, true, rfl, iteF ⟨_, _, rfl, ((s1.trans s12).trans e3).trans s4⟩⟩
  rintro σ H1 ⟨y0, y1, rfl, s1⟩
  have sH1 : Same H H1 := sJ.trans s1
  clear gr s1 sJ
  refine ⟨by show 3 ≤ sizeLine; decide, fun v0 nv0 => ?_⟩
  have tv0 := same_upd (o := .lst [.int 11, .int 2, .int 11]) nv0
  have kv0 := upd_same (H := H1) (a := v0) (o := .lst [.int 11, .int 2, .int 11])
  generalize upd H1 v0 (.lst [.int 11, .int 2, .int 11]) = L1 at tv0 kv0
  refine ⟨by show 2 ≤ sizeLine; decide, fun v1 nv1 => ?_⟩
  have tv1 := same_upd (o := .tup [.ref v0, .bl true]) nv1
  have kv1 := upd_same (H := L1) (a := v1) (o := .tup [.ref v0, .bl true])
  generalize upd L1 v1 (.tup [.ref v0, .bl true]) = L2 at tv1 kv1
  refine ⟨by show 3 ≤ sizeLine; decide, fun v2 nv2 => ?_⟩
  have tv2 := same_upd (o := .lst [.int 2, .int 11, .int 11]) nv2
  have kv2 := upd_same (H := L2) (a := v2) (o := .lst [.int 2, .int 11, .int 11])
  generalize upd L2 v2 (.lst [.int 2, .int 11, .int 11]) = L3 at tv2 kv2
  refine ⟨by show 2 ≤ sizeLine; decide, fun v3 nv3 => ?_⟩
  have tv3 := same_upd (o := .tup [.ref v2, .bl false]) nv3
  have kv3 := upd_same (H := L3) (a := v3) (o := .tup [.ref v2, .bl false])
  generalize upd L3 v3 (.tup [.ref v2, .bl false]) = L4 at tv3 kv3
  refine ⟨by show 2 ≤ sizeLine; decide, fun v4 nv4 => ?_⟩
  have tv4 := same_upd (o := .lst [.int 11, .int 2]) nv4
  have kv4 := upd_same (H := L4) (a := v4) (o := .lst [.int 11, .int 2])
  generalize upd L4 v4 (.lst [.int 11, .int 2]) = L5 at tv4 kv4
  refine ⟨by show 2 ≤ sizeLine; decide, fun v5 nv5 => ?_⟩
  have tv5 := same_upd (o := .tup [.ref v4, .bl false]) nv5
  have kv5 := upd_same (H := L5) (a := v5) (o := .tup [.ref v4, .bl false])
  generalize upd L5 v5 (.tup [.ref v4, .bl false]) = L6 at tv5 kv5
  refine ⟨by show 3 ≤ sizeLine; decide, fun vl nvl => ?_⟩
  have tvl := same_upd (o := .lst [.ref v1, .ref v3, .ref v5]) nvl
  have kvl := upd_same (H := L6) (a := vl) (o := .lst [.ref v1, .ref v3, .ref v5])
  generalize upd L6 vl (.lst [.ref v1, .ref v3, .ref v5]) = LL at tvl kvl
  have kv0 := (tv1.trans (tv2.trans (tv3.trans (tv4.trans (tv5.trans tvl))))) _ _ kv0
  have kv1 := (tv2.trans (tv3.trans (tv4.trans (tv5.trans tvl)))) _ _ kv1
  have kv2 := (tv3.trans (tv4.trans (tv5.trans tvl))) _ _ kv2
  have kv3 := (tv4.trans (tv5.trans tvl)) _ _ kv3
  have kv4 := (tv5.trans tvl) _ _ kv4
  have kv5 := tvl _ _ kv5
  have sL : Same H1 LL := (tv0.trans (tv1.trans (tv2.trans (tv3.trans (tv4.trans (tv5.trans tvl))))))
  have rr : ∀ x ∈ [V.ref v1, .ref v3, .ref v5], RR K LL x :=
    List.forall_mem_cons.mpr ⟨⟨v1, v0, [11, 2, 11], true, rfl, SqT.of kv1, kv0, few1R, few4R _ (.inl rfl), by decide⟩, List.forall_mem_cons.mpr ⟨⟨v3, v2, [2, 11, 11], false, rfl, SqT.of kv3, kv2, few2R, few4R _ (.inr (.inl rfl)), by decide⟩,
      List.forall_mem_cons.mpr ⟨⟨v5, v4, [11, 2], false, rfl, SqT.of kv5, kv4, few3R, few4R _ (.inr (.inr rfl)), by decide⟩, fun _ z => nomatch z⟩⟩⟩
  refine ⟨vl, rfl, ⟨_, SqL.of kvl⟩, ?_⟩
  refine for_it (walk_list (xs := [.ref v1, .ref v3, .ref v5])) (fun i σ H' => ∃ y1 y2, σ = [y0, y1, y2] ∧ Same LL H') ⟨_, _, rfl, Same.refl _⟩ (fun i σ H' _ ⟨_, _, _, s⟩ => SqL.of (s _ _ kvl)) ?_ ?_
  · rintro i x σ _ H2 hi ⟨y1, y2, rfl, s2⟩ ⟨rfl, hx⟩
    obtain ⟨t, l, F, b, rfl, h1, h2, hr1, hr2, zF⟩ := (rr x (List.mem_of_getElem? hx)).same s2
    refine ⟨t, _, rfl, h1, rfl, _, _, rfl, _, _, rfl, rfl, ?_⟩
    refine ⟨_, rfl, fun o dx no ndx ne => ?_⟩
    have e1 : Same H2 (upd (upd H2 dx (.own o)) o (.ins (He.ga K "Row") dx [])) := sm_put (same_upd ndx) no
    refine ⟨_, _, rfl, o, dx, l, _, rfl, rfl, upd_same, SqL.of (e1 _ _ h2), fun H3 l3 sX nl ho hl3 => ⟨rfl, ?_⟩⟩
    have s23 : Same H2 H3 := fun b u e => sX b u (ne_of_none e no) (e1 b u e)
    refine ⟨o, dx, _, rfl, ho, rfl, by show 3 ≤ sizeLine; decide, fun m nm => ?_⟩
    have e3 := same_upd (o := .lst (LI [11, 11, 2])) nm
    refine ⟨_, _, rfl, o, dx, l3, F, m, [11, 11, 2], rfl, rfl, e3 _ _ ho, e3 _ _ hl3, SqL.of upd_same, by show 3 ≤ 100000; decide, by omega, fun H4 s4 => ?_⟩
    refine ⟨_, rfl, _, _, rfl, b, congrArg V.bl hr1, rfl, true, rfl, iteF ?_⟩
    have s24 := (s23.trans e3).trans s4
    refine ⟨_, rfl, fun o2 dx2 no2 ndx2 ne2 => ?_⟩
    have e5 : Same H4 (upd (upd H4 dx2 (.own o2)) o2 (.ins (He.ga K "Ring") dx2 [])) := sm_put (same_upd ndx2) no2
    refine ⟨_, _, rfl, o2, dx2, l, _, rfl, rfl, upd_same, SqL.of (e5 _ _ (s24 _ _ h2)), fun H5 l5 sX5 nl5 ho5 hl5 => ⟨rfl, ?_⟩⟩
    have s45 : Same H4 H5 := fun b u e => sX5 b u (ne_of_none e no2) (e5 b u e)
    refine ⟨o2, dx2, _, rfl, ho5, rfl, by show 3 ≤ sizeLine; decide, fun m2 nm2 => ?_⟩
    have e6 := same_upd (o := .lst (LI [11, 11, 2])) nm2
    refine ⟨_, _, rfl, o2, dx2, l5, F, m2, [11, 11, 2], rfl, rfl, e6 _ _ ho5, e6 _ _ hl5, SqL.of upd_same, by show 3 ≤ 100000; decide, by omega, fun H6 s6 => ?_⟩
    exact ⟨_, _, rfl, false, congrArg V.bl hr2, rfl, true, rfl, iteF ⟨_, _, rfl, (((s2.trans s24).trans s45).trans e6).trans s6⟩⟩
  rintro σ H2 ⟨y1, y2, rfl, s2⟩
  have sH2 : Same H H2 := (sH1.trans sL).trans s2
  clear rr s2 sL sH1
  refine ⟨by show 1 ≤ sizeLine; decide, fun a nu => ?_⟩
  have f1 := same_upd (o := .lst (LI [5])) nu
  intro o dx no ndx ne
  have e1 : Same (upd H2 a (.lst (LI [5]))) (upd (upd (upd H2 a (.lst (LI [5]))) dx (.own o)) o (.ins (He.ga K "Ring") dx [])) := sm_put (same_upd ndx) no
  refine ⟨_, _, rfl, o, dx, a, LI [5], rfl, rfl, upd_same, SqL.of (e1 _ _ upd_same), fun H3 l3 sX nl ho hl3 => ⟨rfl, ?_⟩⟩
  have s23 : Same (upd H2 a (.lst (LI [5]))) H3 := fun b u e => sX b u (ne_of_none e no) (e1 b u e)
  refine ⟨o, dx, _, rfl, ho, rfl, by show 1 ≤ sizeLine; decide, fun m nm => ?_⟩
  have e3 := same_upd (o := .lst (LI [5])) nm
  refine ⟨_, _, rfl, o, dx, l3, [5], m, [5], rfl, rfl, e3 _ _ ho, e3 _ _ hl3, SqL.of upd_same, by show 1 ≤ 100000; decide, by show 1 ≤ 100000; decide, fun H4 s4 => ?_⟩
  refine ⟨_, _, rfl, false, congrArg V.bl few5R.1, rfl, true, rfl, iteF ?_⟩
  have sH4 := (((sH2.trans f1).trans s23).trans e3).trans s4
  clear f1 e1 s23 e3 s4
  refine ⟨Nat.zero_le _, fun a2 nu2 => ?_⟩
  have f2 := same_upd (o := .lst (LI [])) nu2
  intro o2 dx2 no2 ndx2 ne2
  have e1 : Same (upd H4 a2 (.lst (LI []))) (upd (upd (upd H4 a2 (.lst (LI []))) dx2 (.own o2)) o2 (.ins (He.ga K "Ring") dx2 [])) := sm_put (same_upd ndx2) no2
  refine ⟨_, _, rfl, o2, dx2, a2, LI [], rfl, rfl, upd_same, SqL.of (e1 _ _ upd_same), fun H5 l5 sX5 nl5 ho5 hl5 => ⟨rfl, ?_⟩⟩
  have s45 : Same (upd H4 a2 (.lst (LI []))) H5 := fun b u e => sX5 b u (ne_of_none e no2) (e1 b u e)
  refine ⟨o2, dx2, _, rfl, ho5, rfl, Nat.zero_le _, fun m2 nm2 => ?_⟩
  have e3 := same_upd (o := .lst (LI [])) nm2
  refine ⟨_, _, rfl, o2, dx2, l5, [], m2, [], rfl, rfl, e3 _ _ ho5, e3 _ _ hl5, SqL.of upd_same, Nat.zero_le _, Nat.zero_le _, fun H6 s6 => ?_⟩
  refine ⟨_, _, rfl, false, congrArg V.bl few5R.2.1, rfl, true, rfl, iteF ?_⟩
  have sH6 := (((sH4.trans f2).trans s45).trans e3).trans s6
  clear f2 e1 s45 e3 s6
  intro o3 dx3 no3 ndx3 ne3
  have e1 : Same H6 (upd (upd H6 dx3 (.own o3)) o3 (.ins (He.ga K "Much") dx3 [])) := sm_put (same_upd ndx3) no3
  refine ⟨_, _, rfl, o3, dx3, 5, rfl, rfl, upd_same, fun H7 sX7 ho7 => ⟨rfl, ?_⟩⟩
  have s67 : Same H6 H7 := fun b u e => sX7 b u (ne_of_none e no3) (e1 b u e)
  refine ⟨o3, dx3, _, rfl, ho7, rfl, by show 1 ≤ sizeLine; decide, fun m3 nm3 => ?_⟩
  have e3 := same_upd (o := .lst (LI [5])) nm3
  refine ⟨_, _, rfl, o3, dx3, 5, m3, [5], rfl, rfl, e3 _ _ ho7, SqL.of upd_same, ?_⟩
  refine ⟨_, _, rfl, false, rfl, rfl, true, rfl, iteT ?_⟩
  have sH8 := (sH6.trans s67).trans e3
  refine ⟨Nat.zero_le _, fun a4 nu4 => ?_⟩
  have f4 := same_upd (o := .lst (LI [])) nu4
  have hu4 := upd_same (H := upd H7 m3 (.lst (LI [5]))) (a := a4) (o := .lst (LI []))
  intro o4 dx4 no4 ndx4 ne4
  have e9 : Same (upd (upd H7 m3 (.lst (LI [5]))) a4 (.lst (LI []))) (upd (upd (upd (upd H7 m3 (.lst (LI [5]))) a4 (.lst (LI []))) dx4 (.own o4)) o4 (.ins (He.ga K "Row") dx4 [])) := sm_put (same_upd ndx4) no4
  refine ⟨_, _, rfl, o4, dx4, a4, LI [], rfl, rfl, upd_same, SqL.of (e9 _ _ hu4), fun H10 l10 sX10 nl10 ho10 hl10 => ⟨rfl, ?_⟩⟩
  have s910 : Same (upd (upd H7 m3 (.lst (LI [5]))) a4 (.lst (LI []))) H10 := fun b u e => sX10 b u (ne_of_none e no4) (e9 b u e)
  refine ⟨o4, dx4, _, rfl, ho10, rfl, Nat.zero_le _, fun m5 nm5 => ?_⟩
  have e10 := same_upd (o := .lst (LI [])) nm5
  refine ⟨_, _, rfl, o4, dx4, l10, [], m5, [], rfl, rfl, e10 _ _ ho10, e10 _ _ hl10, SqL.of upd_same, Nat.zero_le _, Nat.zero_le _, fun H11 s11 => ?_⟩
  exact ⟨_, _, rfl, true, congrArg V.bl few5R.2.2, rfl, q _ ((((sH8.trans f4).trans s910).trans e10).trans s11)⟩
def sp__law_bent (K : PySem.W.Frag) : Sp := sp2 fun x y H Q _ => ∃ a F c, x = .ref a ∧ SqL K H a (LI F) ∧ F.length ≤ 90000 ∧ y = .int c ∧ ∀ H' p F', Same H H' → H p = none → H' p = some (.lst (LI F')) → F'.length ≤ F.length + 1 → Q (.ref p) H'
theorem draw_nn (c k m : Int) (h : 0 < m) : 0 ≤ draw c k m ∧ draw c k m < m := ⟨Int.emod_nonneg _ (by omega), Int.emod_lt_of_pos _ h⟩
theorem ix_at {n : Nat} {z : Int} {j : Nat} (e : z = (j : Int)) (h : j < n) : ixN n z = some j := by
  unfold ixN
  rw [if_pos (by omega), if_pos (by omega)]
  congr 1
  omega
theorem li_set (F : List Int) (j : Nat) (z : Int) : (LI F).set j (.int z) = LI (F.set j z) := (List.map_set ..).symm
theorem map_erase {α β : Type} (f : α → β) : ∀ (l : List α) (j : Nat), (l.map f).eraseIdx j = (l.eraseIdx j).map f
  | [], _ => rfl
  | _ :: _, 0 => rfl
  | a :: r, j + 1 => congrArg (f a :: ·) (map_erase f r j)
theorem li_erase (F : List Int) (j : Nat) : (LI F).eraseIdx j = LI (F.eraseIdx j) := map_erase V.int F j
theorem pick3 {d : Int} (h : 0 ≤ d ∧ d < 3) (a b c : Int) : ∃ z : Int, atI [V.int a, .int b, .int c] d = some (.int z) := by
  obtain rfl | rfl | rfl : d = 0 ∨ d = 1 ∨ d = 2 := by omega
  · exact ⟨a, at_of (j := 0) rfl rfl⟩
  · exact ⟨b, at_of (j := 1) rfl rfl⟩
  · exact ⟨c, at_of (j := 2) rfl rfl⟩
theorem k__law_bent (T : Tp K mg base) : DefOk P w K mg base CX0 2 "_law_bent" ["_law_kinds", "_law_cell"] (sp__law_bent K) := by
  obtain ⟨fd, F⟩ := d__law_bent T
  refine ⟨fd, F.ok sc__law_bent len2 (fun cdv A outer s H vs Q E hr h => ?_), (F.bindsN fun _ _ _ _ _ _ us hl => match us, hl with | [_, _], _ => rfl), F.kp, g__law_bent T⟩
  refine ⟨_, PSs.nox (pss_cons (ps_par (by rfl) sc__law_bent.nd (i := 2) (j := 3) rfl rfl (by decide) rfl rfl (pa_cons (pe_fn (k__law_draw T) (hr.mono (by decide)) (by rfl) pass0 (pa_cons (pv 1) (pa_cons pe_int (pa_cons pe_int pa_nil)))) (pa_cons (pe_callB (zlen K) (by rfl) (n_len T) (by decide +kernel) (pa_cons (pv 0) pa_nil)) pa_nil)) (by rfl))
      (Evl.pss_cut (ps_if (PW.pt (pw_or (pt_cmpR op_eq (pv 3) pe_int (nomark _)) (pw_or1 (pt_cmpR op_eq (pv 2) pe_int (nomark _))))) (pss_one (ps_ret (pe_callTy (zlist K) (by rfl) (n_list T) (by decide +kernel) (pa_cons (pv 0) pa_nil)))) pss_nil)
      (pss_cons (ps_par (by rfl) sc__law_bent.nd (i := 4) (j := 5) rfl rfl (by decide) rfl rfl (pa_cons (pe_fn (k__law_draw T) (hr.mono (by decide)) (by rfl) pass0 (pa_cons (pv 1) (pa_cons pe_int (pa_cons (pv 3) pa_nil)))) (pa_cons (pe_fn (k__law_draw T) (hr.mono (by decide)) (by rfl) pass0 (pa_cons (pv 1) (pa_cons pe_int (pa_cons (pv 3) pa_nil)))) pa_nil)) (by rfl))
      (pss_cons (ps_set (i := 6) sc__law_bent.nd rfl (Or.inl rfl) (pe_callTy (zlist K) (by rfl) (n_list T) (by decide +kernel) (pa_cons (pv 0) pa_nil)))
      (Evl.pss_cut (ps_if (pt_cmpR (zin K) (pv 2) (pe_tup (pa_cons pe_int (pa_cons pe_int pa_nil))) (by rfl)) (pss_one (ps_asg (pe_tup (pa_cons (pe_ix (zixL K) (pv 0) (pv 5) (fun _ _ => rfl)) (pa_cons (pe_ix (zixL K) (pv 0) (pv 4) (fun _ _ => rfl)) pa_nil))) (pg_tup rfl (pgs_cons (pg_sub (pv 6) (pv 4) set_list) (pgs_cons (pg_sub (pv 6) (pv 5) set_list) pgs_nil))))) pss_nil)
      (Evl.pss_cut (ps_if (pt_cmpR op_eq (pv 2) pe_int (nomark _)) (pss_one (ps_expr (pe_bm PySem.F.plainAttrs_list PySem.F.slot_list_pop PySem.F.type_list_pop mt_popAt (pv 6) (pa_cons (pv 4) pa_nil)))) pss_nil)
      (Evl.pss_cut (ps_if (pt_cmpR op_eq (pv 2) pe_int (nomark _)) (pss_one (ps_ret (pe_op op_cat (pe_op op_cat (pe_slice (zslL K) (pv 0) po_none (po_some (pv 4))) (pe_lst (pa_cons (pe_ix (zixT K) (pe_tup (pa_cons pe_int (pa_cons (pe_un un_neg pe_int) (pa_cons pe_int pa_nil)))) (pe_fn (k__law_draw T) (hr.mono (by decide)) (by rfl) pass0 (pa_cons (pv 1) (pa_cons pe_int (pa_cons pe_int pa_nil)))) (fun _ _ => rfl)) pa_nil))) (pe_slice (zslL K) (pv 0) (po_some (pv 4)) po_none)))) pss_nil)
      (Evl.pss_cut (ps_if (pt_cmpR op_eq (pv 2) pe_int (nomark _)) (pss_one (ps_asg (pe_ix (zixL K) (pv 0) (pv 5) (fun _ _ => rfl)) (pg_sub (pv 6) (pv 4) set_list))) pss_nil)
      (Evl.pss_cut (ps_if (pt_cmpR op_eq (pv 2) pe_int (nomark _)) (pss_one (ps_ret (zrevL K (pv 0)))) pss_nil)
      (pss_one (ps_ret (pe_ifExp (pt_cmpR op_eq (pv 2) pe_int (nomark _)) (pe_callB (zsorted K) (by rfl) (n_sorted T) (by decide +kernel) (pa_cons (pv 0) pa_nil)) (pv 6))))))))))))), ?_⟩
  obtain ⟨_, _, rfl, a, F, c, rfl, hS, zF, rfl, q⟩ := h
  refine ⟨_, rfl, _, _, _, rfl, c, 1, 8, rfl, rfl, rfl, by decide, by decide, fun H1 s1 => ?_⟩
  have b1 := draw_nn c 1 8 (by decide)
  generalize draw c 1 8 = k at b1
  refine ⟨.ref a, rfl, a, LI F, rfl, .inl (s1.seq hS), _, _, rfl, ?_⟩
  have el : ((LI F).length : Int) = (F.length : Int) := by rw [LI, List.length_map]
  refine ⟨fun σ' H' => σ' = [some (.ref a), some (.int c), some (.int k), some (.int F.length), none, none, none] ∧ Same H H' ∧ 0 < F.length, ?_, ?_⟩
  · refine ⟨_, rfl, rfl, _, rfl, ?_⟩
    by_cases c0 : F.length = 0
    · rw [decide_eq_true (congrArg V.int (show ((LI F).length : Int) = 0 by omega))]
      refine iteT ?_
      refine iteT ?_
      exact ⟨.ref a, rfl, a, LI F, rfl, .inl (s1.seq hS), fun p np => q _ p F (s1.trans (same_upd np)) (s1.free np) upd_same (by omega)⟩
    · rw [decide_eq_false (fun z => c0 (by have := V.int.inj z; omega))]
      refine iteF ?_
      refine ⟨_, rfl, rfl, _, rfl, ite2 (fun _ => ?_) (fun _ => ?_)⟩
      · exact ⟨.ref a, rfl, a, LI F, rfl, .inl (s1.seq hS), fun p np => q _ p F (s1.trans (same_upd np)) (s1.free np) upd_same (by omega)⟩
      · refine ⟨?_, s1, by omega⟩
        rw [← el]
        rfl
  clear s1
  rintro σ' H1 ⟨rfl, s1, hpos⟩
  refine ⟨_, rfl, _, rfl, _, _, _, rfl, c, 2, _, rfl, rfl, rfl, by decide, by omega, fun H2 s2 => ?_⟩
  have b2 := draw_nn c 2 F.length (by omega)
  generalize draw c 2 F.length = z at b2
  refine ⟨_, rfl, _, rfl, _, _, _, rfl, c, 3, _, rfl, rfl, rfl, by decide, by omega, fun H3 s3 => ⟨_, _, rfl, ?_⟩⟩
  have b3 := draw_nn c 3 F.length (by omega)
  generalize draw c 3 F.length = y at b3
  obtain ⟨i, rfl⟩ : ∃ i : Nat, z = (i : Int) := ⟨z.toNat, by omega⟩
  obtain ⟨j, rfl⟩ : ∃ j : Nat, y = (j : Int) := ⟨y.toNat, by omega⟩
  have hi : i < F.length := by omega
  have hj : j < F.length := by omega
  have s13 := (s1.trans s2).trans s3
  refine ⟨.ref a, rfl, a, LI F, rfl, .inl (s13.seq hS), fun f nf => ?_⟩
  have nf0 := s13.free nf
  have s4 := s13.trans (same_upd (o := .lst (LI F)) nf)
  have hf4 := upd_same (H := H3) (a := f) (o := .lst (LI F))
  generalize upd H3 f (.lst (LI F)) = H4 at s4 hf4
  clear s1 s2 s3 s13 nf b2 b3 el
  -- what the list found is, all the way
  refine ⟨fun σ' H' => ∃ F', σ' = [some (.ref a), some (.int c), some (.int k), some (.int F.length), some (.int (i : Nat)), some (.int (j : Nat)), some (.ref f)] ∧ Same H H' ∧ H' f = some (.lst (LI F')) ∧ F'.length = F.length, ?_, ?_⟩
  · refine ⟨_, rfl, by show 2 ≤ sizeLine; decide, fun u nu => ?_⟩
    have hf5 := same_upd (o := .tup [.int 1, .int 2]) nu _ _ hf4
    have s5 := s4.trans (same_upd (o := .tup [.int 1, .int 2]) nu)
    refine ⟨u, _, rfl, .inr (SqT.of upd_same), rfl, rfl, _, rfl, ite2 (fun _ => ?_) (fun _ => ⟨F, rfl, s5, hf5, rfl⟩)⟩
    refine ⟨.ref a, rfl, _, rfl, a, LI F, _, .int F[j], rfl, rfl, s5.seq hS, at_of (j := j) rfl (li_get hj), ?_⟩
    refine ⟨.ref a, rfl, _, rfl, a, LI F, _, .int F[i], rfl, rfl, s5.seq hS, at_of (j := i) rfl (li_get hi), by show 2 ≤ sizeLine; decide, fun t nt => ?_⟩
    have hf6 := same_upd (o := .tup [.int F[j], .int F[i]]) nt _ _ hf5
    have s6 := s5.trans (same_upd (o := .tup [.int F[j], .int F[i]]) nt)
    refine ⟨t, _, rfl, SqT.of upd_same, rfl, ?_⟩
    refine ⟨_, _, rfl, .ref f, rfl, _, rfl, f, LI F, _, i, rfl, rfl, hf6, ix_at rfl (by rw [LI, List.length_map]; exact hi), ?_⟩
    rw [li_set]
    refine ⟨_, _, rfl, .ref f, rfl, _, rfl, f, _, _, j, rfl, rfl, upd_same, ix_at rfl (by rw [LI, List.length_map, List.length_set]; exact hj), ?_⟩
    rw [li_set]
    exact ⟨rfl, _, rfl, sm_put (sm_put s6 nf0) nf0, upd_same, by rw [List.length_set, List.length_set]⟩
  clear hf4 s4
  rintro σ' H4 ⟨F1, rfl, s4, hf4, z1⟩
  refine ⟨fun σ' H' => ∃ F', σ' = [some (.ref a), some (.int c), some (.int k), some (.int F.length), some (.int (i : Nat)), some (.int (j : Nat)), some (.ref f)] ∧ Same H H' ∧ H' f = some (.lst (LI F')) ∧ F'.length ≤ F.length ∧ (k ≠ 3 → F'.length = F.length), ?_, ?_⟩
  · refine ⟨_, rfl, rfl, _, rfl, ite2 (fun e => ?_) (fun _ => ⟨F1, rfl, s4, hf4, by omega, fun _ => z1⟩)⟩
    have ek := V.int.inj (of_decide_eq_true e)
    refine ⟨.ref f, rfl, .inl ⟨rfl, _, SqL.of hf4⟩, _, rfl, f, LI F1, _, i, .int F1[i], rfl, rfl, hf4, by omega, by omega, ?_, ?_, ?_⟩
    · rw [LI, List.length_map]
      exact seqIndex_of (by omega) (by omega)
    · exact li_get (by omega)
    · rw [li_erase]
      exact ⟨_, rfl, sm_put s4 nf0, upd_same, by rw [List.length_eraseIdx]; split <;> omega, fun h => absurd ek h⟩
  clear hf4 s4 z1
  rintro σ' H4 ⟨F2, rfl, s4, hf4, z2, z3⟩
  refine ⟨fun σ' H' => ∃ F', σ' = [some (.ref a), some (.int c), some (.int k), some (.int F.length), some (.int (i : Nat)), some (.int (j : Nat)), some (.ref f)] ∧ Same H H' ∧ H' f = some (.lst (LI F')) ∧ F'.length ≤ F.length ∧ (k ≠ 3 → F'.length = F.length), ?_, ?_⟩
  · refine ⟨_, rfl, rfl, _, rfl, ite2 (fun e => ?_) (fun _ => ⟨F2, rfl, s4, hf4, z2, z3⟩)⟩
    refine ⟨.ref a, rfl, _, rfl, _, rfl, a, LI F, rfl, s4.seq hS, fun u1 m1 => ?_⟩
    rw [cut_to, li_take]
    have t1 := same_upd (o := .lst (LI (F.take i))) m1
    refine ⟨_, rfl, by show 3 ≤ sizeLine; decide, fun u2 m2 => ?_⟩
    have t2 := t1.trans (same_upd (o := .tup [.int 5, .int (-1), .int 901]) m2)
    refine ⟨_, rfl, _, _, _, rfl, c, 4, 3, rfl, rfl, rfl, by decide, by decide, fun H5 s5 => ?_⟩
    obtain ⟨w, hw⟩ := pick3 (draw_nn c 4 3 (by decide)) 5 (-1) 901
    have t3 := t2.trans s5
    refine ⟨u2, _, _, .int w, rfl, rfl, SqT.of (s5 _ _ upd_same), hw, by show 1 ≤ sizeLine; decide, fun u3 m3 => ?_⟩
    have t4 := t3.trans (same_upd (o := .lst [.int w]) m3)
    have r1 := (((same_upd (o := .tup [.int 5, .int (-1), .int 901]) m2).trans s5).trans (same_upd (o := .lst [.int w]) m3)) _ _ (upd_same (H := H4) (a := u1) (o := .lst (LI (F.take i))))
    have g1 : (LI (F.take i)).length ≤ F.length := by rw [LI, List.length_map, List.length_take]; omega
    refine ⟨u1, u3, _, _, rfl, rfl, r1, upd_same, sz_le (by show _ + 1 ≤ _; omega), fun u4 m4 => ?_⟩
    have t5 := t4.trans (same_upd (o := .lst (LI (F.take i) ++ [.int w])) m4)
    refine ⟨.ref a, rfl, _, rfl, _, rfl, a, LI F, rfl, (s4.trans t5).seq hS, fun u5 m5 => ?_⟩
    rw [cut_from, li_drop]
    have g2 : (LI (F.drop i)).length ≤ F.length := by rw [LI, List.length_map, List.length_drop]; omega
    have t6 := t5.trans (same_upd (o := .lst (LI (F.drop i))) m5)
    have r2 := same_upd (o := .lst (LI (F.drop i))) m5 _ _ (upd_same (H := upd H5 u3 (.lst [.int w])) (a := u4) (o := .lst (LI (F.take i) ++ [.int w])))
    refine ⟨u4, u5, _, _, rfl, rfl, r2, upd_same, sz_le (by rw [List.length_append]; show _ + 1 + _ ≤ _; omega), fun u6 m6 => ?_⟩
    have t7 := (s4.trans t6).trans (same_upd (o := .lst (LI (F.take i) ++ [.int w] ++ LI (F.drop i))) m6)
    have ez : LI (F.take i) ++ [V.int w] ++ LI (F.drop i) = LI (F.take i ++ [w] ++ F.drop i) := by
      rw [li_snoc, LI, LI, LI, ← List.map_append]
    refine q _ u6 (F.take i ++ [w] ++ F.drop i) t7 ((s4.trans t6).free m6) (by rw [upd_same, ez]) ?_
    rw [List.length_append, List.length_append, List.length_take, List.length_drop]
    show _ + 1 + _ ≤ _
    omega
  clear hf4 s4
  rintro σ' H4 ⟨F3, rfl, s4, hf4, z4, z5⟩
  refine ⟨fun σ' H' => ∃ F', σ' = [some (.ref a), some (.int c), some (.int k), some (.int F.length), some (.int (i : Nat)), some (.int (j : Nat)), some (.ref f)] ∧ Same H H' ∧ H' f = some (.lst (LI F')) ∧ F'.length ≤ F.length, ?_, ?_⟩
  · refine ⟨_, rfl, rfl, _, rfl, ite2 (fun e => ?_) (fun _ => ⟨F3, rfl, s4, hf4, z4⟩)⟩
    have ek := V.int.inj (of_decide_eq_true e)
    have zl := z5 (by omega)
    refine ⟨.ref a, rfl, _, rfl, a, LI F, _, .int F[j], rfl, rfl, s4.seq hS, at_of (j := j) rfl (li_get hj), .ref f, rfl, _, rfl, f, LI F3, _, i, rfl, rfl, hf4, ix_at rfl (by rw [LI, List.length_map]; omega), ?_⟩
    rw [li_set]
    exact ⟨_, rfl, sm_put s4 nf0, upd_same, by rw [List.length_set]; exact z4⟩
  clear hf4 s4
  rintro σ' H4 ⟨F4, rfl, s4, hf4, z6⟩
  refine ⟨fun σ' H' => σ' = [some (.ref a), some (.int c), some (.int k), some (.int F.length), some (.int (i : Nat)), some (.int (j : Nat)), some (.ref f)] ∧ H' = H4, ?_, ?_⟩
  · refine ⟨_, rfl, rfl, _, rfl, ite2 (fun e => ?_) (fun _ => ⟨rfl, rfl⟩)⟩
    refine ⟨.ref a, rfl, a, LI F, rfl, s4.seq hS, fun p np => ?_⟩
    refine q _ p F.reverse (s4.trans (same_upd np)) (s4.free np) ?_ (by rw [List.length_reverse]; omega)
    rw [upd_same, LI, LI, List.map_reverse]
  rintro σ' H5 ⟨rfl, rfl⟩
  refine ⟨_, rfl, rfl, _, rfl, ite2 (fun e => ?_) (fun _ => ?_)⟩
  · refine ⟨.ref a, rfl, a, F, rfl, s4.seq hS, fun ns p pr so np => ?_⟩
    exact q _ p ns (s4.trans (same_upd np)) (s4.free np) upd_same (by rw [pr.length_eq]; omega)
  · exact ⟨.ref f, rfl, q _ f F4 s4 nf0 hf4 (by omega)⟩
def sp_is_number (K : PySem.W.Frag) : Sp := sp3 fun x y z H Q _ => ∃ lo hi, y = .int lo ∧ z = .int hi ∧ NumTy K H x ∧ Q (.bl (numOk x lo hi)) H
theorem k_is_number (T : Tp K mg base) : DefOk P w K mg base CX0 1 "is_number" ["thing", "low", "high"] (sp_is_number K) := by
  obtain ⟨fd, F⟩ := d_is_number T
  refine ⟨fd, F.ok sc_is_number len3 (fun cdv A outer s H vs Q E hr h => ?_), (F.bindsN fun _ _ _ _ _ _ us hl => match us, hl with | [_, _, _], _ => rfl), F.kp, g_is_number T⟩
  refine ⟨_, PSs.nox (pss_one (ps_ret (pe_and (pe_callB (zisi K) (by rfl) (n_isinstance T) (by decide +kernel) (pa_cons (pv 0) (pa_cons (pe_bltn (v := .ty "int") (by rfl) (n_int T) (by decide +kernel) rfl) pa_nil))) (pe_and (pe_not (pe_callB (zisi K) (by rfl) (n_isinstance T) (by decide +kernel) (pa_cons (pv 0) (pa_cons (pe_bltn (v := .ty "bool") (by rfl) (n_bool T) (by decide +kernel) rfl) pa_nil)))) (pe_one (pe_chain op_le op_le (pv 1) (pv 0) (pv 2))))))), ?_⟩
  obtain ⟨x, _, _, rfl, lo, hi, rfl, rfl, ⟨t, ty, e1, e2⟩, q⟩ := h
  refine ⟨x, rfl, x, .ty "int", t, .type "int", isI x, rfl, .ty _, ty, e1, _, rfl, ?_⟩
  cases hI : isI x with
  | false =>
    refine iteF ?_
    have : numOk x lo hi = false := by cases x <;> first | rfl | cases hI
    rw [this] at q
    exact q
  | true =>
    refine iteT ⟨x, rfl, x, .ty "bool", t, .type "bool", isB x, rfl, .ty _, ty, e2, _, rfl, _, rfl, ?_⟩
    cases hB : isB x with
    | true =>
      refine iteF ?_
      have : numOk x lo hi = false := by cases x <;> first | rfl | cases hB
      rw [this] at q
      exact q
    | false =>
      refine iteT ?_
      obtain ⟨i, rfl⟩ : ∃ i, x = .int i := by
        cases x <;> first | exact ⟨_, rfl⟩ | (exfalso; revert hI hB; simp [isI, isB])
      refine ⟨.int lo, rfl, .int i, rfl, _, _, rfl, rfl, _, rfl, ite2 (fun h1 => ?_) (fun h1 => ?_)⟩
      · refine ⟨.int hi, rfl, _, _, rfl, rfl, ?_⟩
        have : numOk (.int i) lo hi = decide (i ≤ hi) := by
          show (decide (lo ≤ i) && decide (i ≤ hi)) = _
          rw [h1, Bool.true_and]
        rw [this] at q
        exact q
      · have : numOk (.int i) lo hi = false := by
          show (decide (lo ≤ i) && decide (i ≤ hi)) = _
          rw [eq_false_of_ne_true h1, Bool.false_and]
        rw [this] at q
        exact q
def sp_check_heap (K : PySem.W.Frag) : Sp := sp1 fun x H Q _ => ∃ a L, x = .ref a ∧ SqL K H a (LI L) ∧ Good L ∧ ∀ H', Same H H' → Q .non H'
theorem k_check_heap (T : Tp K mg base) : DefOk P w K mg base CX0 2 "check_heap" ["heap"] (sp_check_heap K) := by
  obtain ⟨fd, F⟩ := d_check_heap T
  refine ⟨fd, F.ok sc_check_heap len1 (fun cdv A outer s H vs Q E hr h => ?_), (F.bindsN fun _ _ _ _ _ _ us hl => match us, hl with | [_], _ => rfl), F.kp, g_check_heap T⟩
  refine ⟨_, PSs.nox (pss_one (ps_if (PW.pt (pw_or (pt_not (pt_val (pe_callB (zisi K) (by rfl) (n_isinstance T) (by decide +kernel) (pa_cons (pv 0) (pa_cons (pe_bltn (v := .ty "list") (by rfl) (n_list T) (by decide +kernel) rfl) pa_nil))))) (pw_or (pt_cmpR op_gt (pe_callB (zlen K) (by rfl) (n_len T) (by decide +kernel) (pa_cons (pv 0) pa_nil)) (pe_glob (v := .int 1000000) (by rfl) (c_THINGS T).choose_spec ⟨_, rfl⟩) (nomark _)) (pw_or1 (pt_not (pt_val (pe_callB (zall K) (by rfl) (n_all T) (by decide +kernel) (pa_cons (pe_lc (own := [("kind", 1)]) (g := gName 1) (tt := tYes) (by rfl) sc_check_heap.nd (pi_list (pv 0)) (blkOk_by (own := [("kind", 1)]) (N := N_check_heap) (sc := defScope s_check_heap) (by decide +kernel)) (fun _ _ _ _ _ => pg_name (i := 1) sc_check_heap.nd rfl (Or.inl rfl)) (fun _ _ _ _ _ => pts_nil) (fun _ _ _ _ _ => (pe_fn (k_is_number T) (hr.mono (by decide)) (by rfl) pass0 (pa_cons (pv 1) (pa_cons pe_int (pa_cons (pe_glob (v := .int 999) (by rfl) (c_GREATEST T).choose_spec ⟨_, rfl⟩) pa_nil)))))) pa_nil)))))))) (pss_one ps_never) pss_nil)), ?_⟩
  obtain ⟨_, rfl, a, L, rfl, hS, hg, q⟩ := h
  refine ⟨.ref a, rfl, .ref a, .ty "list", _, .type "list", true, rfl, .ty _, ty_list hS, kit_ty (by decide +kernel), true, rfl, iteF ?_⟩
  refine ⟨.ref a, rfl, a, LI L, rfl, .inl hS, _, _, rfl, rfl, _, rfl, ite2 (fun e => ?_) (fun _ => ?_)⟩
  · have := of_decide_eq_true e
    rw [List.length_map] at this
    have := hg.len
    omega
  · refine ⟨.ref a, rfl, a, rfl, ⟨_, hS⟩, fun D hD => ?_⟩
    refine lc_pure (L := L) (fun z => some (.bl (numOk (.int z) 0 999))) (by rw [← List.length_map (f := V.int)]; exact walk_list) hD hg.len (fun _ _ s g => s.seq g) hS ?_ (fun H' s hr => ?_)
    · rintro i hi x H1 H2 s1 _ ⟨rfl, hx⟩ Z Zn z1 z2
      rw [li_get hi] at hx
      obtain rfl := Option.some.inj hx
      exact ⟨rfl, _, rfl, _, _, _, rfl, 0, 999, rfl, rfl, numTy_int _, z1 _ _ rfl (Same.refl _)⟩
    · rw [fm_map] at hr
      refine ⟨D, L.map (fun z => numOk (.int z) 0 999), rfl, ?_, true, ?_, iteF (q H' s)⟩
      · rw [List.map_map]
        exact SqL.of hr
      · rw [all_map]
        refine congrArg V.bl (List.all_eq_true.mpr fun z hz => ?_)
        have := hg.rng z hz
        simp [numOk, this]
def sp_check_number (K : PySem.W.Frag) : Sp := sp1 fun x H Q _ => ∃ n : Int, x = .int n ∧ 1 ≤ n ∧ n ≤ 1000 ∧ Q .non H
theorem k_check_number (T : Tp K mg base) : DefOk P w K mg base CX0 2 "check_number" ["number"] (sp_check_number K) := by
  obtain ⟨fd, F⟩ := d_check_number T
  refine ⟨fd, F.ok sc_check_number len1 (fun cdv A outer s H vs Q E hr h => ?_), (F.bindsN fun _ _ _ _ _ _ us hl => match us, hl with | [_], _ => rfl), F.kp, g_check_number T⟩
  refine ⟨_, PSs.nox (pss_one (ps_if (pt_not (pt_val (pe_fn (k_is_number T) (hr.mono (by decide)) (by rfl) pass0 (pa_cons (pv 0) (pa_cons pe_int (pa_cons (pe_glob (v := .int 1000) (by rfl) (c_MOST T).choose_spec ⟨_, rfl⟩) pa_nil)))))) (pss_one ps_never) pss_nil)), ?_⟩
  obtain ⟨_, rfl, n, rfl, h1, h2, q⟩ := h
  refine ⟨_, rfl, _, _, _, rfl, 1, 1000, rfl, rfl, numTy_int _, true, ?_, iteF q⟩
  simp [numOk, h1, h2]
def sp_Spaced_init (K : PySem.W.Frag) : Sp := sp2 fun x y H Q _ => ∃ a dx p xs, x = .ref a ∧ y = .ref p ∧ H a = some (.ins (He.ga K "Spaced") dx []) ∧ SqL K H p xs ∧
  ∀ H' l, SameX a H H' → H l = none → H' a = some (.ins (He.ga K "Spaced") dx [("kinds", .ref l)]) → H' l = some (.lst xs) → Q .non H'
theorem m_Spaced (T : Tp K mg base) : MakOk P w K mg base CX0 1 "Spaced" ["self", "kinds"] (sp_Spaced_init K) := by
  obtain ⟨fd, F⟩ := d_Spaced_init T
  refine ⟨_, fd, F.ok sc_Spaced_init len2 (fun cdv A outer s H vs Q E hr h => ?_), (F.bindsN fun _ _ _ _ _ _ us hl => match us, hl with | [_, _], _ => rfl), mkr_Spaced T, g_Spaced T⟩
  refine ⟨_, PSs.nox (pss_one (ps_fld (pv 0) (pe_callTy (zlist K) (by rfl) (n_list T) (by decide +kernel) (pa_cons (pv 1) pa_nil)) (by rfl))), ?_⟩
  obtain ⟨_, _, rfl, a, dx, p, xs, rfl, rfl, ha, hp, q⟩ := h
  refine ⟨.ref p, rfl, p, xs, rfl, .inl hp, fun l nl => ?_⟩
  have al : a ≠ l := ne_of_none ha nl
  refine ⟨_, rfl, a, _, dx, [], rfl, by rw [upd_ne al]; exact ha, cls_Spaced T, na_Spaced_kinds T, by decide, ?_⟩
  refine q _ l (fun b o nb e => ?_) nl (by rw [upd_same]; rfl) (by rw [upd_ne al.symm, upd_same])
  rw [upd_ne nb, upd_ne (ne_of_none e nl)]
  exact e
def sp_commonest (K : PySem.W.Frag) : Sp := sp1 fun x H Q _ => ∃ a L, x = .ref a ∧ SqL K H a (LI L) ∧ Good L ∧
  ∀ H' p, Same H H' → H p = none → H' p = some (.lst (LI (cmn L))) → Q (.ref p) H'
theorem k_commonest (T : Tp K mg base) : DefOk P w K mg base CX0 3 "commonest" ["heap"] (sp_commonest K) := by
  obtain ⟨fd, F⟩ := d_commonest T
  refine ⟨fd, F.ok sc_commonest len1 (fun cdv A outer s H vs Q E hr h => ?_), (F.bindsN fun _ _ _ _ _ _ us hl => match us, hl with | [_], _ => rfl), F.kp, g_commonest T⟩
  refine ⟨_, PSs.nox (pss_cons (ps_expr (pe_fn (k_check_heap T) (hr.mono (by decide)) (by rfl) pass0 (pa_cons (pv 0) pa_nil)))
      (pss_cons (ps_if (pt_cmpR op_eq (pe_callB (zlen K) (by rfl) (n_len T) (by decide +kernel) (pa_cons (pv 0) pa_nil)) pe_int (nomark _)) (pss_one (ps_ret (pe_lst pa_nil))) pss_nil)
      (pss_cons (ps_set (i := 1) sc_commonest.nd rfl (Or.inr rfl) (pe_fn (k_counts_of T) (hr.mono (by decide)) (by rfl) pass0 (pa_cons (pv 0) pa_nil)))
      (pss_cons (ps_set (i := 2) sc_commonest.nd rfl (Or.inr rfl) (pe_callB (zmax K) (by rfl) (n_max T) (by decide +kernel) (pa_cons (pe_listVals rfl (pv 1) (by rfl) (n_list T)) pa_nil)))
      (pss_one (ps_ret (pe_lc (own := [("kind", 3)]) (g := gName 3) (by rfl) sc_commonest.nd (pi_keysN (pv 1)) (blkOk_by (own := [("kind", 3)]) (N := N_commonest) (sc := defScope s_commonest) (by decide +kernel)) (fun _ _ _ _ _ => pg_name (i := 3) sc_commonest.nd rfl (Or.inl rfl)) (fun _ _ _ _ _ => pts_one (pt_cmpR op_eq (pe_dget (hu_of hr) (pv 1) (pv 3) (fun _ _ => rfl)) (pv 2) (nomark _))) (fun _ _ _ _ _ => (pv 3))))))))), ?_⟩
  obtain ⟨_, rfl, a, L, rfl, hS, hg, q⟩ := h
  refine ⟨.ref a, rfl, _, rfl, a, L, rfl, hS, hg, fun H1 s1 => ?_⟩
  refine ⟨.ref a, rfl, a, LI L, rfl, .inl (s1.seq hS), rfl, _, rfl, ite2 (fun e => ?_) (fun e => ?_)⟩
  · have e0 : L = [] := by
      have := V.int.inj (of_decide_eq_true e)
      rw [List.length_map] at this
      exact List.length_eq_zero_iff.mp (by omega)
    subst e0
    refine ⟨Nat.zero_le _, fun p np => ?_⟩
    have e1 : cmn [] = [] := by simp [cmn, cn, srt, tally]
    exact q _ p (sm_put s1 (s1.free np)) (s1.free np) (by rw [e1]; exact upd_same)
  · have hne : L ≠ [] := fun z => by
      subst z
      exact e (decide_eq_true rfl)
    refine ⟨.ref a, rfl, _, rfl, a, L, rfl, s1.seq hS, hg.len, fun H2 d s2 nd hd => ?_⟩
    refine ⟨.ref d, rfl, d, _, rfl, hd, fun v nv => ?_⟩
    have s3 := (s1.trans s2).trans (same_upd (o := .lst ((dk (cn L)).map (·.2))) nv)
    refine ⟨v, (cn L).map (·.2), rfl, SqL.of (by rw [upd_same, dk_vals]), ?_, fun m hm hle => ?_⟩
    · obtain ⟨z, r, rfl⟩ : ∃ z r, L = z :: r := by
        cases L with
        | nil => exact absurd rfl hne
        | cons z r => exact ⟨z, r, rfl⟩
      have h1 : (z, ((z :: r).count z : Int)) ∈ cn (z :: r) := mem_cn.mpr ⟨List.mem_cons_self, rfl⟩
      rw [List.length_map]
      exact List.length_pos_of_mem h1
    have em : m = mostI L := by
      refine mx_eq (.inr hm) ?_ hle
      obtain ⟨p, hp, rfl⟩ := List.mem_map.mp hm
      rw [(mem_cn.mp hp).2]
      omega
    subst em
    have hd3 := same_upd (o := .lst ((dk (cn L)).map (·.2))) nv _ _ hd
    generalize upd H2 v (.lst ((dk (cn L)).map (·.2))) = H3 at s3 hd3
    refine ⟨.ref d, rfl, d, dk (cn L), rfl, hd3, fun o => ⟨d, o, rfl, .inl ⟨_, upd_same, fun D hD => ?_⟩⟩⟩
    have dD : D ≠ d := fun z => by rw [z, upd_same] at hD; cases hD
    have dfr : H d = none := s1.free nd
    have s4 : Same H (upd H3 d (.frz o (.dK (dk (cn L))))) := sm_put s3 dfr
    refine lc_pure (L := cn L) (fun p => if p.2 = mostI L then some (.int p.1) else none) (by rw [← dk_len]; exact walk_keys) hD (by have := cn_len L; have := hg.len; omega) (fun _ _ s g => s _ _ g) upd_same ?_ (fun H' s hr => ?_)
    · rintro i hi x H5 H6 s5 g5 ⟨rfl, k, v, hx, rfl⟩ Z Zn z1 z2
      rw [dk_get hi] at hx
      obtain ⟨rfl, rfl⟩ := Prod.mk.inj (Option.some.inj hx)
      refine ⟨rfl, .ref d, rfl, _, rfl, d, .int (cn L)[i].2, rfl, .inl ⟨_, Sum.inl (cn L)[i].1, .inr ⟨o, g5⟩, rfl, ?_⟩, .int (mostI L), rfl, rfl, _, rfl, ite2 (fun e => ?_) (fun e => ?_)⟩
      · rw [dk_val, lk_of_mem (cn_nodup L) (List.getElem_mem hi)]
        rfl
      · have e' := V.int.inj (of_decide_eq_true e)
        exact ⟨_, rfl, z1 _ _ (if_pos e') (Same.refl _)⟩
      · have e' : ¬ (cn L)[i].2 = mostI L := fun z => e (decide_eq_true (congrArg V.int z))
        exact z2 _ (if_neg e') (Same.refl _)
    · rw [fm_filter] at hr
      refine q H' D (s4.trans s) (s4.free hD) hr
def sp_by_count (K : PySem.W.Frag) : Sp := sp1 fun x H Q _ => ∃ a L, x = .ref a ∧ SqL K H a (LI L) ∧ L.length ≤ 100000 ∧ TabK K H ∧ ∀ H' p, Sm K H H' → Fr H p → H' p = some (.lst (LI (byc L))) → Q (.ref p) H'
theorem k_by_count (T : Tp K mg base) : DefOk P w K mg base CX0 3 "by_count" ["heap"] (sp_by_count K) := by
  obtain ⟨fd, F⟩ := d_by_count T
  refine ⟨fd, FunD.okC F sc_by_count len1 (fun A outer s H vs Q E hr h => ?_), (F.bindsN fun _ _ _ _ _ _ us hl => match us, hl with | [_], _ => rfl), F.kp, g_by_count T⟩
  refine ⟨_, PSs.nox (pss_cons (ps_set (i := 3) sc_by_count.nd rfl (Or.inr rfl) (pe_fn (k_counts_of T) (hr.mono (by decide)) (by rfl) pass0 (pa_cons (pv 0) pa_nil)))
      (pss_cons (ps_set (i := 1) sc_by_count.nd rfl (Or.inl rfl) (pe_lst pa_nil))
      (pss_cons (ps_for PassesOwn.never rfl (pi_list (pe_sortLam (im := 3) rfl (hr.mono (by decide)) (by rfl) (n_sorted T) (T.tb ("by_count", none) (List.mem_singleton.mpr rfl)) rfl (T := bcTabs K) (List.mem_singleton.mpr rfl) (fun q hq _ => by rw [List.mem_singleton.mp hq]; rfl) rfl rfl rfl rfl rfl rfl (by decide +kernel) (fun y hy e => (show ∀ y ∈ ([("kind", .local), ("many", .free)] : List (Str × NameKind)), y.2 = .free → (defScope s_by_count).names.lookup y.1 = some .cell by decide +kernel) y hy e) (fun _ _ _ _ _ _ _ => rfl) rfl (pv 3))) (pg_name (i := 2) sc_by_count.nd rfl (Or.inr rfl))
        (pss_one (ps_expr (pe_bm PySem.F.plainAttrs_list PySem.F.slot_list_extend PySem.F.type_list_extend mt_extend (pv 1) (pa_cons (pe_lc (own := [("turn", 4)]) (g := gName 4) (tt := tYes) (by rfl) sc_by_count.nd (pi_range1 (by rfl) (n_range T) (pa_cons (pe_dget (hu_of hr) (pv 3) (pv 2) (fun _ _ => rfl)) pa_nil)) (blkOk_by (own := [("turn", 4)]) (N := N_by_count) (sc := defScope s_by_count) (by decide +kernel)) (fun _ _ _ _ _ => pg_name (i := 4) sc_by_count.nd rfl (Or.inl rfl)) (fun _ _ _ _ _ => pts_nil) (fun _ _ _ _ _ => (pv 2))) pa_nil)))))
      (pss_one (ps_ret (pv 1)))))), ?_⟩
  obtain ⟨_, rfl, a, L, rfl, hS, hl, hT, q⟩ := h
  refine ⟨.ref a, rfl, _, rfl, a, L, rfl, hS, hl, fun H1 d s1 nd hd => ?_⟩
  refine ⟨Nat.zero_le _, fun p np => ?_⟩
  have hd2 := same_upd (o := .lst []) np _ _ hd
  have s2 : Same H (upd H1 p (.lst [])) := s1.trans (same_upd np)
  refine ⟨.ref d, rfl, d, cn L, rfl, hd2, cn_nodup L, by have := cn_len L; omega, rfl, hT.ext s2, fun H3 w e3 t3 nw => ?_⟩
  have s3 : Sm K H H3 := (sm_of s2).trans (sm_ext e3 t3)
  have hd3 : H3 d = some (.dK (dk (cn L))) := e3 _ _ hd2 (fun _ z => by cases z)
  have hp3 : H3 p = some (.lst []) := e3 _ _ upd_same (fun _ z => by cases z)
  have fp : Fr H p := Fr.of (s1.free np)
  have pw : p ≠ w := ne_of_none hp3 nw
  have dw : d ≠ w := ne_of_none hd3 nw
  have dp : d ≠ p := ne_of_none hd np
  refine ⟨w, rfl, ⟨_, SqL.of upd_same⟩, ?_⟩
  refine for_it (walk_list (xs := LI (byK (cn L)))) (fun i σ H' => ∃ y2 y4, σ = [some (.ref a), some (.ref p), y2, some (.ref d), y4] ∧ Sm K H H' ∧ H' d = some (.dK (dk (cn L))) ∧ H' w = some (.lst (LI (byK (cn L)))) ∧
      H' p = some (.lst (LI (((byK (cn L)).take i).flatMap fun k => List.replicate (L.count k) k))))
    ⟨none, none, rfl, sm_new s3 nw, by rw [upd_ne dw]; exact hd3, upd_same, by rw [upd_ne pw]; exact hp3⟩ (fun i σ H' _ ⟨_, _, _, _, _, h, _⟩ => SqL.of h) ?_ ?_
  · rintro i x σ _ H4 hi ⟨y2, y4, rfl, s4, hd4, hw4, hp4⟩ ⟨rfl, hx⟩
    rw [List.length_map] at hi
    rw [li_get hi] at hx
    obtain rfl := Option.some.inj hx
    have hmem : (byK (cn L))[i] ∈ L := byK_mem.mp (List.getElem_mem hi)
    have hval : valV (dk (cn L)) (Sum.inl (byK (cn L))[i]) = some (.int (L.count (byK (cn L))[i])) := by
      have := List.one_le_count_iff.mpr hmem
      rw [dk_val, cn_lk, if_neg (by omega)]
      rfl
    have hcl : L.count (byK (cn L))[i] ≤ L.length := List.count_le_length
    have htot : (((byK (cn L)).take i).flatMap fun k => List.replicate (L.count k) k).length + L.count (byK (cn L))[i] ≤ L.length := by
      have h1 : (((byK (cn L)).take (i + 1)).flatMap fun k => List.replicate (L.count k) k).length ≤ L.length := by
        rw [← byc_len L]
        unfold byc
        conv => rhs; rw [← List.take_append_drop (i + 1) (byK (cn L))]
        rw [List.flatMap_append, List.length_append]
        omega
      rw [List.take_add_one, List.getElem?_eq_getElem hi] at h1
      simp only [Option.toList, List.flatMap_append, List.length_append, List.flatMap_cons, List.flatMap_nil, List.append_nil, List.length_replicate] at h1
      exact h1
    refine ⟨.ref p, rfl, .inl ⟨rfl, _, SqL.of hp4⟩, ?_⟩
    refine ⟨.ref d, rfl, _, rfl, d, _, rfl, .inl ⟨_, Sum.inl (byK (cn L))[i], .inl hd4, rfl, hval.symm⟩, (L.count (byK (cn L))[i] : Int), rfl, by omega, by omega, fun D hD => ?_⟩
    refine lc_pure (L := List.range (L.count (byK (cn L))[i])) (fun _ => some (.int (byK (cn L))[i])) (G := fun _ => True) (Y := fun i H x H' => H' = H ∧ x = .int (0 + (i : Nat))) ?_ hD (by rw [List.length_range]; omega) (fun _ _ _ _ => trivial) trivial ?_ (fun H5 s5 hr5 => ?_)
    · rw [List.length_range]
      exact walk_range
    · rintro j hj x H6 _ s6 _ ⟨rfl, hx⟩ Z Zn z1 z2
      exact ⟨rfl, _, rfl, z1 _ _ rfl (Same.refl _)⟩
    · rw [fm_map] at hr5
      have er : (List.range (L.count (byK (cn L))[i])).map (fun _ => V.int (byK (cn L))[i]) = LI (List.replicate (L.count (byK (cn L))[i]) (byK (cn L))[i]) := by
        rw [LI, List.map_replicate]
        refine List.ext_getElem (by simp) fun k h1 h2 => by simp
      rw [er] at hr5
      refine ⟨p, D, _, _, rfl, rfl, s5 _ _ hp4, hr5, ?_, ?_⟩
      · rw [LI, LI, List.length_map, List.length_map, List.length_replicate]
        exact sz_le (by omega)
      · have pD : p ≠ D := ne_of_none hp4 hD
        refine ⟨_, _, rfl, sm_mut (s4.trans (sm_of s5)) fp (s5 _ _ hp4), ?_, ?_, ?_⟩
        · rw [upd_ne dp]
          exact s5 _ _ hd4
        · rw [upd_ne pw.symm]
          exact s5 _ _ hw4
        · rw [upd_same, List.take_add_one, List.getElem?_eq_getElem hi]
          simp only [Option.toList, List.flatMap_append, List.flatMap_cons, List.flatMap_nil, List.append_nil]
          rw [LI, LI, LI, List.map_append]
  · rintro σ H4 ⟨y2, y4, rfl, s4, hd4, hw4, hp4⟩
    rw [List.length_map, List.take_length] at hp4
    exact ⟨.ref p, rfl, q _ p s4 fp hp4⟩
def sp_blocks_of (K : PySem.W.Frag) : Sp := sp2 fun x y H Q _ => ∃ a L, x = .ref a ∧ SqL K H a (LI L) ∧ Good L ∧ L ≠ [] ∧ TabK K H ∧ y = .int (mNat L : Nat) ∧
  ∀ H' b gs, Sm K H H' → Fr H b → H' b = some (.lst (gs.map V.ref)) → ObjsAt H' oL gs (blks L) → Q (.ref b) H'
theorem k_blocks_of (T : Tp K mg base) : DefOk P w K mg base CX0 4 "blocks_of" ["heap", "most"] (sp_blocks_of K) := by
  obtain ⟨fd, F⟩ := d_blocks_of T
  refine ⟨fd, F.ok sc_blocks_of len2 (fun cdv A outer s H vs Q E hr h => ?_), (F.bindsN fun _ _ _ _ _ _ us hl => match us, hl with | [_, _], _ => rfl), F.kp, g_blocks_of T⟩
  refine ⟨_, PSs.nox (pss_cons (ps_set (i := 2) sc_blocks_of.nd rfl (Or.inr rfl) (pe_fn (k_commonest T) (hr.mono (by decide)) (by rfl) pass0 (pa_cons (pv 0) pa_nil)))
      (pss_cons (ps_setLc (i := 3) (own := [("turn", 7)]) (g := gName 7) (tt := tYes) (by rfl) sc_blocks_of.nd rfl rfl (sw_true rfl rfl rfl (by decide +kernel)) (pi_range1 (by rfl) (n_range T) (pa_cons (pv 1) pa_nil)) (blkOk_by (own := [("turn", 7)]) (N := N_blocks_of) (sc := defScope s_blocks_of) (by decide +kernel)) (fun _ _ _ _ _ => pg_name (i := 7) sc_blocks_of.nd rfl (Or.inl rfl)) (fun _ _ _ _ _ => pts_nil) (fun _ _ _ _ _ => (pe_callTy (zlist K) (by rfl) (n_list T) (by decide +kernel) (pa_cons (pv 2) pa_nil))))
      (pss_cons (ps_setLc (i := 5) (own := [("kind", 4)]) (g := gName 4) (by rfl) sc_blocks_of.nd rfl rfl (sw_true rfl rfl rfl (by decide +kernel)) (pi_list (pe_fn (k_by_count T) (hr.mono (by decide)) (by rfl) pass0 (pa_cons (pv 0) pa_nil))) (blkOk_by (own := [("kind", 4)]) (N := N_blocks_of) (sc := defScope s_blocks_of) (by decide +kernel)) (fun _ _ _ _ _ => pg_name (i := 4) sc_blocks_of.nd rfl (Or.inl rfl)) (fun _ _ _ _ _ => pts_one (pt_cmpR (znin K) (pv 4) (pv 2) (by rfl))) (fun _ _ _ _ _ => (pv 4)))
      (pss_cons (ps_for PassesOwn.never rfl (pi_enum (by rfl) (n_enumerate T) (pa_cons (pv 5) pa_nil)) (pg_tup rfl (pgs_cons (pg_name (i := 6) sc_blocks_of.nd rfl (Or.inl rfl)) (pgs_cons (pg_name (i := 4) sc_blocks_of.nd rfl (Or.inl rfl)) pgs_nil)))
        (pss_one (ps_expr (pe_bm PySem.F.plainAttrs_list PySem.F.slot_list_append PySem.F.type_list_append mt_append (pe_ix (zixL K) (pv 3) (pe_op op_mod (pv 6) (pe_op op_sub (pv 1) pe_int)) (fun _ _ => rfl)) (pa_cons (pv 4) pa_nil)))))
      (pss_one (ps_ret (pv 3))))))), ?_⟩
  obtain ⟨_, _, rfl, a, L, rfl, hS, hg, hne, hT, rfl, q⟩ := h
  have hlen := hg.len
  have hmn : mNat L ≤ L.length := by
    have := most_le_len L
    have := mNat_eq L
    omega
  refine ⟨.ref a, rfl, _, rfl, a, L, rfl, hS, hg, fun H1 t s1 nt ht => ?_⟩
  refine ⟨_, rfl, (mNat L : Int), rfl, by omega, by omega, fun D hD => ?_⟩
  refine lc_fresh (L := List.range (mNat L)) (fun _ => oL (cmn L)) (G := fun H' => H' t = some (.lst (LI (cmn L)))) (Y := fun i H x H' => H' = H ∧ x = .int (0 + (i : Nat))) ?_ hD (by rw [List.length_range]; omega) (fun _ _ s g => s _ _ g) ht ?_ (fun H4 ts s4 nts fts Dts oa hDl => ?_)
  · rw [List.length_range, Int.toNat_natCast]
    exact walk_range.mono (fun _ _ => trivial) (fun _ _ _ _ _ _ y => y)
  · rintro i hi x H5 H6 s5 g5 ⟨rfl, rfl⟩ Z Zn z1
    exact ⟨rfl, .ref t, rfl, t, LI (cmn L), rfl, .inl (SqL.of g5), fun l nl => z1 l _ nl upd_same (same_upd nl)⟩
  have oa0 : ObjsAt H4 oL ts (List.replicate (mNat L) (cmn L)) := by
    have := ObjsAt.map (f := fun _ : Nat => cmn L) (o := oL) oa
    have e : (List.range (mNat L)).map (fun _ => cmn L) = List.replicate (mNat L) (cmn L) := List.ext_getElem (by simp) fun k h1 h2 => by simp
    rw [e] at this
    exact this
  have s04 := s1.trans s4
  have ht4 := s4 _ _ ht
  -- the others
  refine ⟨.ref a, rfl, _, rfl, a, L, rfl, s04.seq hS, hlen, hT.ext s04, fun H5 c s5 fc hc => ⟨c, rfl, ⟨_, SqL.of hc⟩, fun D2 hD2 => ?_⟩⟩
  have ht5 := s5.l ht4
  have s05 : Sm K H H5 := (sm_of s04).trans s5
  refine lc_pure (L := byc L) (fun z => if z ∈ cmn L then none else some (.int z)) (G := fun H' => H' c = some (.lst (LI (byc L))) ∧ H' t = some (.lst (LI (cmn L)))) (by
    rw [← List.length_map (f := V.int)]
    exact walk_list.mono (fun _ h => SqL.of h.1) (fun _ _ _ _ _ _ y => y)) hD2 (by rw [byc_len]; omega) (fun _ _ s g => ⟨s _ _ g.1, s _ _ g.2⟩) ⟨hc, ht5⟩ ?_ (fun H6 s6 hr6 => ?_)
  · rintro i hi x H7 H8 s7 g7 ⟨rfl, hx⟩ Z Zn z1 z2
    rw [li_get hi] at hx
    obtain rfl := Option.some.inj hx
    refine ⟨rfl, _, rfl, .ref t, rfl, t, LI (cmn L), rfl, .inl (SqL.of g7.2), rfl, flat_li _, _, rfl, ?_⟩
    show if (!inV (.int (byc L)[i]) (LI (cmn L))) = true then _ else _
    rw [inV_li]
    by_cases e : (byc L)[i] ∈ cmn L
    · rw [decide_eq_true e]
      exact iteF (z2 _ (if_pos e) (Same.refl _))
    · rw [decide_eq_false e]
      exact iteT ⟨_, rfl, z1 _ _ (if_neg e) (Same.refl _)⟩
  rw [fm_ot] at hr6
  have s06 : Sm K H H6 := s05.trans (sm_of s6)
  have hD6 := s6 _ _ (s5.l hDl)
  have oa6 := (oa0.sm s5 oL_ne).same s6
  have fD : Fr H D := Sm.fr (K := K) (sm_of s1) (Fr.of hD)
  have fts2 : ∀ g ∈ ts, Fr H g := fun g hg => Sm.fr (K := K) (sm_of s1) (Fr.of (fts g hg))
  have lo : (ot L).length ≤ L.length := by
    unfold ot
    have := List.length_filter_le (fun z => decide (z ∉ cmn L)) (byc L)
    rw [byc_len] at this
    exact this
  have dD2 : D2 ≠ D := fun z => by rw [z, s5.l hDl] at hD2; cases hD2
  have d2ts : D2 ∉ ts := fun z => by
    obtain ⟨x, _, h⟩ := (oa0.sm s5 oL_ne).mem D2 z
    rw [hD2] at h
    cases h
  refine ⟨.ref D2, rfl, D2, LI (ot L), rfl, SqL.of hr6, ?_⟩
  refine for_it (walk_enum (xs := LI (ot L))) (fun i σ H' => ∃ y4 y6 y7, σ = [some (.ref a), some (.int (mNat L : Nat)), some (.ref t), some (.ref D), y4, some (.ref D2), y6, y7] ∧ Sm K H H' ∧ H' D2 = some (.lst (LI (ot L))) ∧ H' D = some (.lst (ts.map V.ref)) ∧ ObjsAt H' oL ts (dealG (List.replicate (mNat L) (cmn L)) (ot L) (mNat L - 1) i))
    ⟨_, _, _, rfl, s06, hr6, hD6, oa6⟩ (fun i σ H' _ ⟨_, _, _, _, _, h, _⟩ => SqL.of h) ?_ ?_
  · rintro i x σ H7 _ hi ⟨y4, y6, y7, rfl, s7, h27, hD7, oa7⟩ ⟨u, x1, x2, rfl, nu, rfl, ex1, ex2⟩
    rw [LI, List.length_map] at hi
    obtain rfl := Option.some.inj ex1
    have ex2 : (LI (ot L))[i]? = some x2 := ex2
    rw [li_getD hi] at ex2
    obtain rfl := Option.some.inj ex2
    have su := same_upd (o := .tup [.int (i : Nat), .int ((ot L).getD i 0)]) nu
    have s8 : Sm K H (upd H7 u (.tup [.int (i : Nat), .int ((ot L).getD i 0)])) := s7.trans (sm_of su)
    have h28 := su _ _ h27
    have hD8 := su _ _ hD7
    have oa8 := oa7.same su
    refine ⟨u, _, rfl, SqT.of upd_same, rfl, _, _, rfl, _, _, rfl, rfl, ?_⟩
    generalize upd H7 u (.tup [.int (i : Nat), .int ((ot L).getD i 0)]) = H8 at s8 h28 hD8 oa8
    have hM : 2 ≤ mNat L := by
      refine Nat.lt_of_not_le fun z => ?_
      rw [ot_nil z] at hi
      cases hi
    have hj : i % (mNat L - 1) < mNat L - 1 := Nat.mod_lt _ (by omega)
    have lB : (dealG (List.replicate (mNat L) (cmn L)) (ot L) (mNat L - 1) i).length = mNat L := by rw [dealG_len, List.length_replicate]
    obtain ⟨g, hg1, hg2⟩ := oa8.get (i := i % (mNat L - 1)) (by omega)
    have egd : (dealG (List.replicate (mNat L) (cmn L)) (ot L) (mNat L - 1) i).getD (i % (mNat L - 1)) [] = (dealG (List.replicate (mNat L) (cmn L)) (ot L) (mNat L - 1) i)[i % (mNat L - 1)]'(by omega) := by
      rw [List.getD_eq_getElem?_getD, List.getElem?_eq_getElem (by omega)]
      rfl
    have hgm : g ∈ ts := List.mem_of_getElem? hg1
    refine ⟨.ref D, rfl, _, rfl, _, rfl, _, _, rfl, rfl, _, _, rfl, rfl, by omega, D, _, _, .ref g, rfl, rfl, SqL.of hD8, at_of (j := i % (mNat L - 1)) ?_ ?_, .inl ⟨rfl, _, SqL.of hg2⟩, _, rfl, g, _, _, rfl, rfl, hg2, ?_, ?_⟩
    · rw [Int.natCast_emod]
      congr 1
      omega
    · rw [List.getElem?_map, hg1]
      rfl
    · rw [LI, List.length_map]
      refine sz_lt ?_
      have h1 := dealG_at (List.replicate (mNat L) (cmn L)) (ot L) (M := mNat L - 1) (by omega) (by rw [List.length_replicate]; omega) i (i % (mNat L - 1)) hj
      rw [List.getElem?_eq_getElem (by omega)] at h1
      rw [Option.some.inj h1, List.length_append, List.length_map, List.getD_eq_getElem?_getD, List.getElem?_replicate, if_pos (by omega)]
      have h2 := List.length_filter_le (fun a => decide (a % (mNat L - 1) = i % (mNat L - 1))) (List.range i)
      rw [List.length_range] at h2
      have h3 := cmn_len L
      show (cmn L).length + _ < _
      omega
    · have Dg : D ≠ g := fun z => Dts (by rw [z]; exact hgm)
      have D2g : D2 ≠ g := fun z => d2ts (by rw [z]; exact hgm)
      refine ⟨_, _, _, rfl, sm_mut s8 (fts2 g hgm) hg2, by rw [upd_ne D2g]; exact h28, by rw [upd_ne Dg]; exact hD8, ?_⟩
      have := oa8.put (g := g) (x := (dealG (List.replicate (mNat L) (cmn L)) (ot L) (mNat L - 1) i).getD (i % (mNat L - 1)) [] ++ [(ot L).getD i 0]) nts hg1
      rw [li_snoc, ← egd]
      exact this
  · rintro σ H7 ⟨y4, y6, y7, rfl, s7, h27, hD7, oa7⟩
    rw [LI, List.length_map] at oa7
    exact ⟨.ref D, rfl, q _ D ts s7 fD hD7 oa7⟩
def SdAt (K : PySem.W.Frag) (L : List Int) (d : Nat) (H H' : Hp) (o dx l : Addr) : Prop := Sm K H H' ∧ Fr H o ∧ Fr H l ∧ H' o = some (.ins (He.ga K "Spaced") dx [("kinds", .ref l)]) ∧ H' l = some (.lst (LI (rowS L d)))
def sp_spaced (K : PySem.W.Frag) : Sp := sp2 fun x y H Q _ => ∃ a L d, x = .ref a ∧ SqL K H a (LI L) ∧ Good L ∧ L.length ≤ 64 ∧ TabK K H ∧ y = .int (d : Nat) ∧ 1 ≤ d ∧ d ≤ 1000 ∧ ∀ H' o dx l, SdAt K L d H H' o dx l → Q (.ref o) H'
theorem k_spaced (T : Tp K mg base) : DefOk P w K mg base CX0 5 "spaced" ["heap", "apart"] (sp_spaced K) := by
  obtain ⟨fd, F⟩ := d_spaced T
  refine ⟨fd, F.ok sc_spaced len2 (fun cdv A outer s H vs Q E hr h => ?_), (F.bindsN fun _ _ _ _ _ _ us hl => match us, hl with | [_, _], _ => rfl), F.kp, g_spaced T⟩
  refine ⟨_, PSs.nox (pss_cons (ps_expr (pe_fn (k_check_heap T) (hr.mono (by decide)) (by rfl) pass0 (pa_cons (pv 0) pa_nil)))
      (pss_cons (ps_expr (pe_fn (k_check_number T) (hr.mono (by decide)) (by rfl) pass0 (pa_cons (pv 1) pa_nil)))
      (pss_cons (ps_if (pt_cmpR op_eq (pe_callB (zlen K) (by rfl) (n_len T) (by decide +kernel) (pa_cons (pv 0) pa_nil)) pe_int (nomark _)) (pss_one (ps_ret (zmk K rfl (m_Spaced T) (hr.mono (by decide)) (by rfl) pass0 (pa_cons (pe_lst pa_nil) pa_nil)))) pss_nil)
      (pss_cons (ps_set (i := 2) sc_spaced.nd rfl (Or.inl rfl) (pe_bm PySem.F.plainAttrs_list PySem.F.slot_list_count PySem.F.type_list_count mt_lcount (pv 0) (pa_cons (pe_ix (zixL K) (pe_fn (k_commonest T) (hr.mono (by decide)) (by rfl) pass0 (pa_cons (pv 0) pa_nil)) pe_int (fun _ _ => rfl)) pa_nil)))
      (pss_cons (ps_set (i := 3) sc_spaced.nd rfl (Or.inl rfl) (pe_fn (k_blocks_of T) (hr.mono (by decide)) (by rfl) pass0 (pa_cons (pv 0) (pa_cons (pv 2) pa_nil))))
      (pss_cons (ps_set (i := 4) sc_spaced.nd rfl (Or.inl rfl) (pe_lst pa_nil))
      (pss_cons (ps_for PassesOwn.never rfl (pi_list (pe_slice (zslL K) (pv 3) po_none (po_some (pe_un un_neg pe_int)))) (pg_name (i := 5) sc_spaced.nd rfl (Or.inl rfl))
        (pss_cons (ps_expr (pe_bm PySem.F.plainAttrs_list PySem.F.slot_list_extend PySem.F.type_list_extend mt_extend (pv 4) (pa_cons (pv 5) pa_nil)))
      (pss_one (ps_expr (pe_bm PySem.F.plainAttrs_list PySem.F.slot_list_extend PySem.F.type_list_extend mt_extend (pv 4) (pa_cons (pe_lc (own := [("turn", 6)]) (g := gName 6) (tt := tYes) (by rfl) sc_spaced.nd (pi_range1 (by rfl) (n_range T) (pa_cons (pe_op op_sub (pv 1) (pe_callB (zlen K) (by rfl) (n_len T) (by decide +kernel) (pa_cons (pv 5) pa_nil))) pa_nil)) (blkOk_by (own := [("turn", 6)]) (N := N_spaced) (sc := defScope s_spaced) (by decide +kernel)) (fun _ _ _ _ _ => pg_name (i := 6) sc_spaced.nd rfl (Or.inl rfl)) (fun _ _ _ _ _ => pts_nil) (fun _ _ _ _ _ => (pe_un un_neg pe_int))) pa_nil))))))
      (pss_one (ps_ret (zmk K rfl (m_Spaced T) (hr.mono (by decide)) (by rfl) pass0 (pa_cons (pe_op op_cat (pv 4) (pe_ix (zixL K) (pv 3) (pe_un un_neg pe_int) (fun _ _ => rfl))) pa_nil))))))))))), ?_⟩
  obtain ⟨_, _, rfl, a, L, d, rfl, hS, hg, zL, hT, rfl, h1, h2, q⟩ := h
  have hz : ∀ z ∈ L, z ≠ -1 := fun z hz' => by have := hg.rng z hz'; omega
  have zr := rowS_len (d := d) hz
  have zr2 : (rowS L d).length ≤ 64 + 64 * 1000 := Nat.le_trans zr (Nat.add_le_add zL (Nat.mul_le_mul zL h2))
  have fin : ∀ (H3 : Hp) (f : Addr), Sm K H H3 → H3 f = some (.lst (LI (rowS L d))) → ∀ x dx, H3 x = none → H3 dx = none → dx ≠ x → ∀ E', sp_Spaced_init K [.ref x, .ref f] (upd (upd H3 dx (.own x)) x (.ins (He.ga K "Spaced") dx [])) (fun v H2 => v = .non ∧ Q (.ref x) H2) E' := by
    intro H3 f s3 hf x dx nx ndx ne E'
    have s4 : Same H3 (upd (upd H3 dx (.own x)) x (.ins (He.ga K "Spaced") dx [])) := sm_put (same_upd ndx) nx
    refine ⟨_, _, rfl, x, dx, f, _, rfl, rfl, upd_same, SqL.of (s4 _ _ hf), fun H' l sX nl hx hl => ⟨rfl, ?_⟩⟩
    have s5 : Same H3 H' := fun b o e => sX b o (ne_of_none e nx) (s4 b o e)
    exact q H' x dx l ⟨s3.trans (sm_of s5), s3.fr (Fr.of nx), s3.fr (Fr.of (s4.free nl)), hx, hl⟩
  refine ⟨.ref a, rfl, _, rfl, a, L, rfl, hS, hg, fun H1 s1 => ?_⟩
  refine ⟨_, rfl, _, rfl, (d : Int), rfl, by omega, by omega, ?_⟩
  refine ⟨.ref a, rfl, a, LI L, rfl, .inl (s1.seq hS), rfl, _, rfl, ite2 (fun e => ?_) (fun e => ?_)⟩
  · have e0 : L = [] := by
      have := V.int.inj (of_decide_eq_true e)
      rw [LI, List.length_map] at this
      exact List.length_eq_zero_iff.mp (by omega)
    subst e0
    refine ⟨Nat.zero_le _, fun p np => ?_⟩
    intro x dx nx ndx ne
    exact fin _ p (sm_of (s1.trans (same_upd np))) (by rw [rowS_nil]; exact upd_same) x dx nx ndx ne _
  have hne : L ≠ [] := fun z => by
    subst z
    exact e (decide_eq_true rfl)
  have hmp := mNat_pos hne
  refine ⟨.ref a, rfl, .inl ⟨rfl, _, s1.seq hS⟩, .ref a, rfl, _, rfl, a, L, rfl, s1.seq hS, hg, fun H2 t s2 nt ht => ?_⟩
  have s12 := s1.trans s2
  have h0 := cmn_ne hne
  refine ⟨t, LI (cmn L), 0, .int (cmn L)[0], rfl, rfl, SqL.of ht, at_of (j := 0) rfl (li_get h0), a, L, (cmn L)[0], rfl, rfl, s12.seq hS, ?_⟩
  have ec : ((L.count (cmn L)[0] : Nat) : Int) = (mNat L : Nat) := by rw [mNat_eq]; exact (cmn_iff.mp (List.getElem_mem h0)).2
  refine ⟨.ref a, rfl, _, rfl, _, _, rfl, a, L, rfl, s12.seq hS, hg, hne, hT.ext s12, ?_, fun H3 b gs s3 fb hb oa => ?_⟩
  · exact congrArg V.int ec
  have lgs : gs.length = mNat L := by rw [paired_len oa, blks_len]
  refine ⟨Nat.zero_le _, fun f nf => ?_⟩
  have s03 : Sm K H H3 := (sm_of s12).trans s3
  have ff : Fr H f := s03.fr (Fr.of nf)
  have sf := same_upd (o := .lst []) nf
  have hb4 := sf _ _ hb
  have oa4 := oa.same sf
  have s04 : Sm K H (upd H3 f (.lst [])) := s03.trans (sm_of sf)
  have hf4 := upd_same (H := H3) (a := f) (o := .lst [])
  have bf : b ≠ f := ne_of_none hb nf
  have fgs : f ∉ gs := fun z => by
    obtain ⟨x, _, h⟩ := oa.mem f z
    rw [nf] at h
    cases h
  generalize upd H3 f (.lst []) = H4 at hb4 oa4 s04 hf4
  refine ⟨.ref b, rfl, _, rfl, _, rfl, b, _, rfl, SqL.of hb4, fun w nw => ?_⟩
  rw [show (-1 : Int) = -1 from rfl, cut_to_last]
  have sw := same_upd (o := .lst (gs.map V.ref).dropLast) nw
  have hw5 := upd_same (H := H4) (a := w) (o := .lst (gs.map V.ref).dropLast)
  refine ⟨w, rfl, ⟨_, SqL.of hw5⟩, ?_⟩
  have ldrop : (gs.map V.ref).dropLast.length = mNat L - 1 := by rw [List.length_dropLast, List.length_map, lgs]
  have fw : f ≠ w := fun z => by rw [← z, hf4] at nw; cases nw
  refine for_it (walk_list (xs := (gs.map V.ref).dropLast)) (fun i σ H' => ∃ y5 y6, σ = [some (.ref a), some (.int (d : Nat)), some (.int (L.count (cmn L)[0] : Nat)), some (.ref b), some (.ref f), y5, y6] ∧ Sm K H H' ∧ H' w = some (.lst (gs.map V.ref).dropLast) ∧ H' b = some (.lst (gs.map V.ref)) ∧ ObjsAt H' oL gs (blks L) ∧ H' f = some (.lst (LI (((blks L).take i).flatMap (padd d)))))
    ⟨_, _, rfl, s04.trans (sm_of sw), hw5, sw _ _ hb4, oa4.same sw, sw _ _ hf4⟩ (fun i σ H' _ ⟨_, _, _, _, h, _⟩ => SqL.of h) ?_ ?_
  · rintro i x σ _ H5 hi ⟨y5, y6, rfl, s5, hw, hb5, oa5, hf5⟩ ⟨rfl, hx⟩
    rw [ldrop] at hi
    have hi2 : i < (blks L).length := by rw [blks_len]; omega
    rw [List.getElem?_dropLast, if_pos (by rw [List.length_map, lgs]; exact hi)] at hx
    obtain ⟨g, rfl, hg5, hgi⟩ := objs_at oa5 hi2 hx
    have hgm : g ∈ gs := List.mem_of_getElem? hgi
    have fg : f ≠ g := fun z => fgs (by rw [z]; exact hgm)
    have hp1 := rowS_pre (L := L) (d := d) (i := i + 1) (by omega)
    have etk : ((blks L).take (i + 1)).flatMap (padd d) = ((blks L).take i).flatMap (padd d) ++ ((blks L)[i] ++ List.replicate (d - (blks L)[i].length) (-1)) := by
      rw [List.take_add_one, List.getElem?_eq_getElem hi2, List.flatMap_append]
      simp [padd]
    rw [etk, List.length_append, List.length_append, List.length_replicate] at hp1
    refine ⟨.ref f, rfl, .inl ⟨rfl, _, SqL.of hf5⟩, .ref g, rfl, f, g, _, _, rfl, rfl, hf5, hg5, ?_, ?_⟩
    · rw [LI, LI, List.length_map, List.length_map]
      exact sz_le (by omega)
    have s6 : Sm K H (upd H5 f (.lst (LI (((blks L).take i).flatMap (padd d)) ++ LI (blks L)[i]))) := sm_mut s5 ff hf5
    have hw6 : upd H5 f (.lst (LI (((blks L).take i).flatMap (padd d)) ++ LI (blks L)[i])) w = _ := (upd_ne fw.symm).trans hw
    have hb6 : upd H5 f (.lst (LI (((blks L).take i).flatMap (padd d)) ++ LI (blks L)[i])) b = _ := (upd_ne bf).trans hb5
    have oa6 := oa5.upd (p := f) (u := .lst (LI (((blks L).take i).flatMap (padd d)) ++ LI (blks L)[i])) fgs
    have hf6 : upd H5 f (.lst (LI (((blks L).take i).flatMap (padd d)) ++ LI (blks L)[i])) f = some (.lst (LI (((blks L).take i).flatMap (padd d) ++ (blks L)[i]))) := by rw [upd_same, LI, LI, LI, List.map_append]
    have hg6 : upd H5 f (.lst (LI (((blks L).take i).flatMap (padd d)) ++ LI (blks L)[i])) g = _ := (upd_ne fg.symm).trans hg5
    generalize upd H5 f (.lst (LI (((blks L).take i).flatMap (padd d)) ++ LI (blks L)[i])) = H6 at s6 hw6 hb6 oa6 hf6 hg6
    have lb : ((LI (blks L)[i]).length : Int) = ((blks L)[i].length : Nat) := by rw [LI, List.length_map]
    refine ⟨.ref f, rfl, .inl ⟨rfl, _, SqL.of hf6⟩, _, rfl, .ref g, rfl, g, _, rfl, .inl (SqL.of hg6), _, _, rfl, rfl, _, rfl, by rw [lb]; omega, by rw [lb]; omega, fun D hD => ?_⟩
    refine lc_pure (L := List.range (d - (blks L)[i].length)) (fun _ => some (.int (-1))) (G := fun _ => True) (Y := fun i H x H' => H' = H ∧ x = .int (0 + (i : Nat))) ?_ hD (by rw [List.length_range]; omega) (fun _ _ _ _ => trivial) trivial ?_ (fun H7 s7 hr7 => ?_)
    · rw [List.length_range, lb, show ((d : Int) - ((blks L)[i].length : Nat)).toNat = d - (blks L)[i].length by omega]
      exact walk_range
    · rintro j hj x H8 _ s8 _ ⟨rfl, hx⟩ Z Zn z1 z2
      exact ⟨rfl, _, rfl, z1 _ _ rfl (Same.refl _)⟩
    · rw [fm_map] at hr7
      have er : (List.range (d - (blks L)[i].length)).map (fun _ => V.int (-1)) = LI (List.replicate (d - (blks L)[i].length) (-1)) := by
        rw [LI, List.map_replicate]
        refine List.ext_getElem (by simp) fun k h1 h2 => by simp
      rw [er] at hr7
      have fD : f ≠ D := ne_of_none hf6 hD
      refine ⟨f, D, _, _, rfl, rfl, s7 _ _ hf6, hr7, ?_, ?_⟩
      · rw [LI, LI, List.length_map, List.length_map, List.length_append, List.length_replicate]
        exact sz_le (by omega)
      · refine ⟨_, _, rfl, sm_mut (s6.trans (sm_of s7)) ff (s7 _ _ hf6), (upd_ne fw.symm).trans (s7 _ _ hw6), (upd_ne bf).trans (s7 _ _ hb6), (oa6.same s7).upd fgs, ?_⟩
        rw [upd_same, etk, LI, LI, LI, ← List.append_assoc, List.map_append (l₂ := List.replicate _ _)]
  · rintro σ H5 ⟨y5, y6, rfl, s5, hw, hb5, oa5, hf5⟩
    rw [ldrop] at hf5
    have hM : mNat L - 1 < (blks L).length := by rw [blks_len]; omega
    obtain ⟨g, hg1, hg2⟩ := oa5.get hM
    have el : (blks L)[mNat L - 1] = cmn L := by
      have := blks_last hne
      rw [List.getElem?_eq_getElem hM] at this
      exact Option.some.inj this
    rw [el] at hg2
    have hrow : rowS L d = ((blks L).take (mNat L - 1)).flatMap (padd d) ++ cmn L := rfl
    have zz : (rowS L d).length = _ := congrArg List.length hrow
    rw [List.length_append] at zz
    refine ⟨.ref f, rfl, .ref b, rfl, _, rfl, b, _, _, .ref g, rfl, rfl, SqL.of hb5, at_back (j := mNat L - 1) (by omega) (by rw [List.length_map, lgs]; omega) (by rw [List.getElem?_map, hg1]; rfl), f, g, _, _, rfl, rfl, hf5, hg2, ?_, fun p np => ?_⟩
    · rw [LI, LI, List.length_map, List.length_map]
      exact sz_le (by omega)
    have e3 : LI (((blks L).take (mNat L - 1)).flatMap (padd d)) ++ LI (cmn L) = LI (rowS L d) := by
      rw [hrow, LI, LI, LI, List.map_append]
    intro x dx nx ndx ne
    rw [e3] at nx ndx ⊢
    exact fin _ p (s5.trans (sm_of (same_upd np))) upd_same x dx nx ndx ne _
def sp__law_many (K : PySem.W.Frag) : Sp := sp1 fun x H Q _ => ∃ a L, x = .ref a ∧ SqL K H a (LI L) ∧ L.length ≤ 100000 ∧ ∀ H' d, Same H H' → H d = none → H' d = some (.dK (dk (tally L))) → Q (.ref d) H'
theorem k__law_many (T : Tp K mg base) : DefOk P w K mg base CX0 1 "_law_many" ["_law_heap_here"] (sp__law_many K) := by
  obtain ⟨fd, F⟩ := d__law_many T
  refine ⟨fd, F.ok sc__law_many len1 (fun cdv A outer s H vs Q E hr h => ?_), (F.bindsN fun _ _ _ _ _ _ us hl => match us, hl with | [_], _ => rfl), F.kp, g__law_many T⟩
  refine ⟨_, PSs.nox (pss_cons (ps_set (i := 1) sc__law_many.nd rfl (Or.inl rfl) pe_dnewK)
      (pss_cons (ps_for PassesOwn.never rfl (pi_list (pv 0)) (pg_name (i := 2) sc__law_many.nd rfl (Or.inl rfl))
        (pss_one (ps_dput (hu_of hr) (pv 1) (pv 2) (pe_op op_add (pe_dget2 (hu_of hr) (pv 1) (pv 2) pe_int ⟨by rfl, by rfl, by rfl, by rfl⟩) pe_int) (by rfl))))
      (pss_one (ps_ret (pv 1))))), ?_⟩
  obtain ⟨_, rfl, a, L, rfl, hS, hl, q⟩ := h
  intro d nd
  refine ⟨.ref a, rfl, a, rfl, ⟨_, (same_upd nd).seq hS⟩, ?_⟩
  refine for_it (walk_list (xs := LI L)) (fun i σ H' => ∃ y2, σ = [some (.ref a), some (.ref d), y2] ∧ Same H H' ∧ H' d = some (.dK (dk (tally (L.take i)))))
    ⟨none, rfl, same_upd nd, by rw [upd_same]; rfl⟩ (fun i σ H' _ ⟨_, _, s, _⟩ => s.seq hS) ?_ ?_
  · rintro i x σ H1 _ hi ⟨y2, rfl, sm, hd⟩ ⟨rfl, hx⟩
    rw [List.length_map] at hi
    rw [li_get hi] at hx
    obtain rfl := Option.some.inj hx
    have hlt : (dk (tally (L.take i))).length < sizeLine := sz_lt (by
      have := tally_len (L.take i)
      rw [List.length_take] at this
      rw [dk_len]
      omega)
    refine ⟨.ref d, rfl, d, rfl, .inl ⟨_, .inl hd⟩, _, rfl, _, DGet.k (k := Sum.inl L[i]) hd, (lk (tally (L.take i)) L[i]).getD 0, 1, ?_, rfl, ?_⟩
    · rw [dk_val]
      cases lk (tally (L.take i)) L[i] <;> rfl
    · refine ⟨.ref d, rfl, _, rfl, d, _, rfl, DPut.k (k := Sum.inl L[i]) hd hlt, _, rfl, sm_put sm nd, ?_⟩
      rw [upd_same, dk_put _ _ _ (tally_nodup _), List.take_add_one, List.getElem?_eq_getElem hi]
      show _ = some (HO.dK (dk (tally (_ ++ [_]))))
      rw [tally_snoc]
      rfl
  · rintro σ H1 ⟨y2, rfl, sm, hd⟩
    rw [List.length_map, List.take_length] at hd
    exact ⟨.ref d, rfl, q _ d sm nd hd⟩
def sp__law_most (K : PySem.W.Frag) : Sp := sp1 fun x H Q _ => ∃ a L, x = .ref a ∧ SqL K H a (LI L) ∧ L.length ≤ 100000 ∧ ∀ H', Same H H' → Q (.int (mostI L)) H'
theorem k__law_most (T : Tp K mg base) : DefOk P w K mg base CX0 2 "_law_most" ["_law_heap_here"] (sp__law_most K) := by
  obtain ⟨fd, F⟩ := d__law_most T
  refine ⟨fd, F.ok sc__law_most len1 (fun cdv A outer s H vs Q E hr h => ?_), (F.bindsN fun _ _ _ _ _ _ us hl => match us, hl with | [_], _ => rfl), F.kp, g__law_most T⟩
  refine ⟨_, PSs.nox (pss_one (ps_ret (pe_callB (zmax K) (by rfl) (n_max T) (by decide +kernel) (pa_cons (pe_op op_cat (pe_lst (pa_cons pe_int pa_nil)) (pe_lc (own := [("_law_kind", 1), ("_law_many_here", 2)]) (g := (gTup K 2 (gCons (gName 1) (gCons (gName 2) gNil)))) (tt := tYes) (by rfl) sc__law_most.nd (pi_itemsN (pe_fn (k__law_many T) (hr.mono (by decide)) (by rfl) pass0 (pa_cons (pv 0) pa_nil))) (blkOk_by (own := [("_law_kind", 1), ("_law_many_here", 2)]) (N := N__law_most) (sc := defScope s__law_most) (by decide +kernel)) (fun _ _ _ _ _ => pg_tup rfl (pgs_cons (pg_name (i := 1) sc__law_most.nd rfl (Or.inl rfl)) (pgs_cons (pg_name (i := 2) sc__law_most.nd rfl (Or.inl rfl)) pgs_nil))) (fun _ _ _ _ _ => pts_nil) (fun _ _ _ _ _ => (pv 2)))) pa_nil)))), ?_⟩
  obtain ⟨_, rfl, a, L, rfl, hS, hl, q⟩ := h
  refine ⟨by show 1 ≤ sizeLine; decide, fun c nc => ?_⟩
  have s1 : Same H (upd H c (.lst [.int 0])) := same_upd nc
  refine ⟨.ref a, rfl, _, rfl, a, L, rfl, s1.seq hS, hl, fun H2 d s2 nd hd => ?_⟩
  refine ⟨d, dk (tally L), rfl, hd, fun o => ⟨d, o, _, rfl, upd_same, fun D hD => ?_⟩⟩
  have cd : c ≠ d := fun z => by rw [← z, upd_same] at nd; cases nd
  have hc3 : upd H2 d (.frz o (.dK (dk (tally L)))) c = some (.lst [.int 0]) := by
    rw [upd_ne cd]
    exact s2 _ _ upd_same
  have s3 : Same H (upd H2 d (.frz o (.dK (dk (tally L))))) := sm_put (s1.trans s2) (s1.free nd)
  have tl := tally_len L
  refine lc_pure (L := tally L) (fun p => some (.int p.2)) (by rw [← dk_len]; exact walk_items) hD (by omega) (fun _ _ s g => s _ _ g) upd_same ?_ (fun H' s hr => ?_)
  · rintro i hi x H5 H6 s5 g5 ⟨T, k, v, rfl, nT, rfl, hk, hv⟩ Z Zn z1 z2
    obtain ⟨rfl, rfl⟩ := dk_item hi hk hv
    exact ⟨T, _, rfl, SqT.of upd_same, rfl, _, _, rfl, _, _, rfl, rfl, rfl, _, rfl, z1 _ _ rfl (same_upd nT)⟩
  · rw [fm_map, show ((tally L).map fun p => V.int p.2) = LI ((tally L).map (·.2)) from (List.map_map ..).symm] at hr
    refine ⟨c, D, [.int 0], LI ((tally L).map (·.2)), rfl, rfl, s _ _ hc3, hr, ?_, fun p np => ?_⟩
    · rw [LI, List.length_map, List.length_map]
      refine sz_le ?_
      show 1 + _ ≤ _
      omega
    · refine ⟨p, 0 :: (tally L).map (·.2), rfl, SqL.of upd_same, Nat.zero_lt_succ _, fun m hm hle => ?_⟩
      have em : m = mostI L := by
        rw [← mostI_tally]
        refine mx_eq (List.mem_cons.mp hm) (hle 0 List.mem_cons_self) fun y hy => hle y (List.mem_cons_of_mem _ hy)
      rw [em]
      exact q _ ((s3.trans s).trans (same_upd np))
structure TabS (T : Tab) (F : List Int) (i : Nat) : Prop where
  nd : (T.map (·.1)).Nodup
  val : ∀ k, lk T k = lastI F i k
  len : T.length ≤ i
theorem TabS.step {T : Tab} {F : List Int} {i : Nat} (h : TabS T F i) : TabS (pu T (F.getD i 0) (i : Int)) F (i + 1) := by
  refine ⟨pu_nodup _ _ h.nd, fun k => ?_, ?_⟩
  · rw [lk_pu, h.val, lastI_succ]
    by_cases e2 : k = F.getD i 0
    · rw [if_pos e2, if_pos e2.symm]
    · rw [if_neg e2, if_neg (c := F.getD i 0 = k) (fun z => e2 z.symm)]
  · have := pu_len T (F.getD i 0) i
    have := h.len
    omega
theorem cm_tally (L : List Int) : ((tally L).filter fun p => decide (p.2 = mostI L)).length = (cmn L).length := by
  unfold cmn
  rw [List.length_map]
  exact ((cn_perm L).symm.filter _).length_eq
def sp__law_spaced (K : PySem.W.Frag) : Sp := sp3 fun x y z H Q _ => ∃ m M l F d, x = .ref m ∧ SqL K H m (LI M) ∧ M.length ≤ 100000 ∧ y = .ref l ∧ H l = some (.lst (LI F)) ∧ F.length ≤ 100000 ∧ z = .int d ∧ ∀ H', Same H H' → Q (.bl (showsS F M d)) H'
theorem k__law_spaced (T : Tp K mg base) : DefOk P w K mg base CX0 3 "_law_spaced" ["_law_heap_here", "_law_kinds", "_law_apart"] (sp__law_spaced K) := by
  obtain ⟨fd, F⟩ := d__law_spaced T
  refine ⟨fd, F.ok sc__law_spaced len3 (fun cdv A outer s H vs Q E hr h => ?_), (F.bindsN fun _ _ _ _ _ _ us hl => match us, hl with | [_, _, _], _ => rfl), F.kp, g__law_spaced T⟩
  refine ⟨_, PSs.nox (pss_cons (ps_if (pt_cmpR (zneD K hr.units) (pe_callB (zsorted K) (by rfl) (n_sorted T) (by decide +kernel) (pa_cons (pe_lc (own := [("_law_kind", 7)]) (g := gName 7) (by rfl) sc__law_spaced.nd (pi_list (pv 1)) (blkOk_by (own := [("_law_kind", 7)]) (N := N__law_spaced) (sc := defScope s__law_spaced) (by decide +kernel)) (fun _ _ _ _ _ => pg_name (i := 7) sc__law_spaced.nd rfl (Or.inl rfl)) (fun _ _ _ _ _ => pts_one (pt_cmpR op_ne (pv 7) (pe_un un_neg pe_int) (nomark _))) (fun _ _ _ _ _ => (pv 7))) pa_nil)) (pe_callB (zsorted K) (by rfl) (n_sorted T) (by decide +kernel) (pa_cons (pv 0) pa_nil)) (nomark _)) (pss_one (ps_ret pe_bl)) pss_nil)
      (pss_cons (ps_set (i := 3) sc__law_spaced.nd rfl (Or.inl rfl) pe_dnewK)
      (pss_cons (ps_for PassesOwn.never rfl (pi_range1 (by rfl) (n_range T) (pa_cons (pe_callB (zlen K) (by rfl) (n_len T) (by decide +kernel) (pa_cons (pv 1) pa_nil)) pa_nil)) (pg_name (i := 4) sc__law_spaced.nd rfl (Or.inl rfl))
        (pss_cons (ps_if (PW.pt (pw_and (pt_cmp (pc_din (hu_of hr) (pe_ix (zixL K) (pv 1) (pv 4) (fun _ _ => rfl)) (pv 3)) (by rfl)) (pw_and (pt_cmpR op_ne (pe_ix (zixL K) (pv 1) (pv 4) (fun _ _ => rfl)) (pe_un un_neg pe_int) (nomark _)) (pw_and1 (pt_cmpR op_lt (pe_op op_sub (pv 4) (pe_dget (hu_of hr) (pv 3) (pe_ix (zixL K) (pv 1) (pv 4) (fun _ _ => rfl)) (fun _ _ => rfl))) (pv 2) (nomark _)))))) (pss_one (ps_ret pe_bl)) pss_nil)
      (pss_one (ps_dput (hu_of hr) (pv 3) (pe_ix (zixL K) (pv 1) (pv 4) (fun _ _ => rfl)) (pv 4) (by rfl)))))
      (pss_cons (ps_set (i := 5) sc__law_spaced.nd rfl (Or.inr rfl) (pe_fn (k__law_most T) (hr.mono (by decide)) (by rfl) pass0 (pa_cons (pv 0) pa_nil)))
      (pss_cons (ps_set (i := 6) sc__law_spaced.nd rfl (Or.inl rfl) (pe_callB (zlen K) (by rfl) (n_len T) (by decide +kernel) (pa_cons (pe_lc (own := [("_law_kind", 7), ("_law_count", 8)]) (g := (gTup K 2 (gCons (gName 7) (gCons (gName 8) gNil)))) (by rfl) sc__law_spaced.nd (pi_itemsN (pe_fn (k__law_many T) (hr.mono (by decide)) (by rfl) pass0 (pa_cons (pv 0) pa_nil))) (blkOk_by (own := [("_law_kind", 7), ("_law_count", 8)]) (N := N__law_spaced) (sc := defScope s__law_spaced) (by decide +kernel)) (fun _ _ _ _ _ => pg_tup rfl (pgs_cons (pg_name (i := 7) sc__law_spaced.nd rfl (Or.inl rfl)) (pgs_cons (pg_name (i := 8) sc__law_spaced.nd rfl (Or.inl rfl)) pgs_nil))) (fun _ _ _ _ _ => pts_one (pt_cmpR op_eq (pv 8) (pv 5) (nomark _))) (fun _ _ _ _ _ => (pv 7))) pa_nil)))
      (pss_one (ps_ret (pe_cmpR (zin K) (pe_callB (zlen K) (by rfl) (n_len T) (by decide +kernel) (pa_cons (pv 1) pa_nil)) (pe_lst (pa_cons (pe_callB (zlen K) (by rfl) (n_len T) (by decide +kernel) (pa_cons (pv 0) pa_nil)) (pa_cons (pe_op op_add (pe_op op_mul (pe_op op_sub (pv 5) pe_int) (pv 2)) (pv 6)) pa_nil))) (by rfl))))))))), ?_⟩
  obtain ⟨_, _, _, rfl, m, M, l, F, d, rfl, hm, zM, rfl, hl, zF, rfl, q⟩ := h
  refine ⟨.ref l, rfl, l, rfl, ⟨_, SqL.of hl⟩, fun D hD => ?_⟩
  refine lc_pure (L := F) (fun z => if z ≠ -1 then some (.int z) else none) (by rw [← List.length_map (f := V.int)]; exact walk_list) hD zF (fun _ _ s g => s.seq g) (SqL.of hl) ?_ (fun H1 s1 hr1 => ?_)
  · rintro i hi x H5 _ s5 _ ⟨rfl, hx⟩ Z Zn z1 z2
    rw [li_get hi] at hx
    obtain rfl := Option.some.inj hx
    refine ⟨rfl, _, rfl, _, rfl, rfl, _, rfl, ?_⟩
    rw [dec_nm]
    by_cases e : F[i] ≠ -1
    · rw [decide_eq_true e]
      exact iteT ⟨_, rfl, z1 _ _ (if_pos e) (Same.refl _)⟩
    · rw [decide_eq_false e]
      exact iteF (z2 _ (if_neg e) (Same.refl _))
  rw [fm_nogap] at hr1
  refine ⟨D, nogap F, rfl, SqL.of hr1, fun ns p pr so np => ?_⟩
  have e1 := sorted_eq pr so
  subst e1
  have s2 := s1.trans (same_upd (o := .lst (LI (srt (nogap F)))) np)
  refine ⟨.ref m, rfl, m, M, rfl, s2.seq hm, fun ns p2 pr2 so2 np2 => ?_⟩
  have e2 := sorted_eq pr2 so2
  subst e2
  have s3 := s2.trans (same_upd (o := .lst (LI (srt M))) np2)
  have g1 := same_upd (o := .lst (LI (srt M))) np2 _ _ (upd_same (H := H1) (a := p) (o := .lst (LI (srt (nogap F)))))
  have g2 := upd_same (H := upd H1 p (.lst (LI (srt (nogap F))))) (a := p2) (o := .lst (LI (srt M)))
  generalize upd (upd H1 p (.lst (LI (srt (nogap F))))) p2 (.lst (LI (srt M))) = H3 at s3 g1 g2
  by_cases e : srt (nogap F) = srt M
  case neg =>
    refine ⟨dI _, dI _, dp_li (SqL.of g1), dp_li (SqL.of g2), shaped_dI _, shaped_dI _, true, by rw [eqv_dI, decide_eq_false e]; rfl, iteT ?_⟩
    have hr : showsS F M d = false := by
      unfold showsS
      rw [decide_eq_false e, Bool.false_and]
    rw [hr] at q
    exact q _ s3
  refine ⟨dI _, dI _, dp_li (SqL.of g1), dp_li (SqL.of g2), shaped_dI _, shaped_dI _, false, by rw [eqv_dI, decide_eq_true e]; rfl, iteF ?_⟩
  have hr : showsS F M d = (spB F d && (decide (F.length = M.length) || decide ((F.length : Int) = (mostI M - 1) * d + (cmn M).length))) := by
    unfold showsS
    rw [decide_eq_true e, Bool.true_and]
  rw [hr] at q
  clear hr g1 g2
  intro dd nd
  have s4 := s3.trans (same_upd (o := .dK []) nd)
  refine ⟨.ref l, rfl, l, LI F, rfl, .inl (SqL.of (s4 _ _ hl)), _, rfl, by rw [LI, List.length_map]; omega, by rw [LI, List.length_map]; omega, ?_⟩
  rw [show ((LI F).length : Int).toNat = F.length by rw [LI, List.length_map]; omega]
  refine for_range (n := F.length) (fun i σ H' => ∃ y4 y7 y8 T', σ = [some (.ref m), some (.ref l), some (.int d), some (.ref dd), y4, none, none, y7, y8] ∧ Same H H' ∧ H' dd = some (.dK (dk T')) ∧ TabS T' F i ∧ ∀ j < i, badB F d j = false)
    ⟨_, _, _, [], rfl, s4, upd_same, ⟨by simp, fun k => by simp [lk, lastI], Nat.le_refl _⟩, fun j hj => absurd hj (Nat.not_lt_zero _)⟩ ?_ ?_
  · rintro i σ H5 hi ⟨y4, y7, y8, T', rfl, s5, hd5, tb, ok⟩
    have hat : atI (LI F) (0 + (i : Int)) = some (.int (F.getD i 0)) := at_of (j := i) (by omega) (li_getD hi)
    have hl5 := s5 _ _ hl
    have ok1 : badB F d i = false → ∀ j < i + 1, badB F d j = false := fun hb j hj => by
      by_cases e : j < i
      · exact ok j e
      · obtain rfl : j = i := by omega
        exact hb
    have go : badB F d i = false → ∃ z4 z7 z8 T'_1, [some (.ref m), some (.ref l), some (.int d), some (.ref dd), some (.int (0 + (i : Int))), none, none, y7, y8] = [some (V.ref m), some (.ref l), some (.int d), some (.ref dd), z4, none, none, z7, z8] ∧ Same H (upd H5 dd (.dK (dk (pu T' (F.getD i 0) (i : Int))))) ∧
        upd H5 dd (.dK (dk (pu T' (F.getD i 0) (i : Int)))) dd = some (.dK (dk T'_1)) ∧ TabS T'_1 F (i + 1) ∧ ∀ j < i + 1, badB F d j = false := fun hb => ⟨_, y7, y8, _, rfl, sm_put s5 (s3.free nd), upd_same, tb.step, ok1 hb⟩
    have hlt : (dk T').length < sizeLine := sz_lt (by rw [dk_len]; have := tb.len; omega)
    have fin : badB F d i = false → (∃ a H4, V.ref dd = .ref a ∧ DPut H5 a (.int (F.getD i 0)) (.int (0 + (i : Int))) H4 ∧ ∃ z4 z7 z8 T'_1, [some (.ref m), some (.ref l), some (.int d), some (.ref dd), some (.int (0 + (i : Int))), none, none, y7, y8] = [some (V.ref m), some (.ref l), some (.int d), some (.ref dd), z4, none, none, z7, z8] ∧ Same H H4 ∧
        H4 dd = some (.dK (dk T'_1)) ∧ TabS T'_1 F (i + 1) ∧ ∀ j < i + 1, badB F d j = false) := fun hb => by
      refine ⟨dd, _, rfl, DPut.k (k := Sum.inl (F.getD i 0)) hd5 hlt, ?_⟩
      rw [dk_put _ _ _ tb.nd, show (0 : Int) + (i : Int) = (i : Int) by omega]
      obtain ⟨z4, z7, z8, T2, e, r⟩ := go hb
      rw [show (0 : Int) + (i : Int) = (i : Int) by omega] at e
      exact ⟨z4, z7, z8, T2, e, r⟩
    refine ⟨.ref l, rfl, _, rfl, l, LI F, _, .int (F.getD i 0), rfl, rfl, SqL.of hl5, hat, .ref dd, rfl, dd, _, rfl, DGet.k (k := Sum.inl (F.getD i 0)) hd5, _, rfl, ?_⟩
    have hv : valV (dk T') (Sum.inl (F.getD i 0)) = (lastI F i (F.getD i 0)).map V.int := by rw [dk_val, tb.val]
    cases el : lastI F i (F.getD i 0) with
    | none =>
      have hb : badB F d i = false := by
        unfold badB
        rw [el, Bool.and_false]
      rw [hv, el]
      refine iteF ?_
      refine iteF ?_
      exact ⟨_, rfl, .ref dd, rfl, .ref l, rfl, _, rfl, l, LI F, _, .int (F.getD i 0), rfl, rfl, SqL.of hl5, hat, fin hb⟩
    | some p =>
      rw [hv, el]
      refine iteT ?_
      refine ⟨.ref l, rfl, _, rfl, l, LI F, _, .int (F.getD i 0), rfl, rfl, SqL.of hl5, hat, _, rfl, rfl, _, rfl, ?_⟩
      rw [dec_nm]
      by_cases e : F.getD i 0 ≠ -1
      case neg =>
        have hb : badB F d i = false := by
          unfold badB
          rw [decide_eq_false e, Bool.false_and]
        rw [decide_eq_false e]
        refine iteF ?_
        refine iteF ?_
        exact ⟨_, rfl, .ref dd, rfl, .ref l, rfl, _, rfl, l, LI F, _, .int (F.getD i 0), rfl, rfl, SqL.of hl5, hat, fin hb⟩
      rw [decide_eq_true e]
      refine iteT ?_
      have hval : some (V.int p) = valV (dk T') (Sum.inl (F.getD i 0)) := by rw [hv, el]; rfl
      refine ⟨_, rfl, .ref dd, rfl, .ref l, rfl, _, rfl, l, LI F, _, .int (F.getD i 0), rfl, rfl, SqL.of hl5, hat, dd, .int p, rfl, .inl ⟨_, Sum.inl (F.getD i 0), .inl hd5, rfl, hval⟩, _, _, rfl, rfl, _, rfl, _, _, rfl, rfl, _, rfl, ite2 (fun e2 => ?_) (fun e2 => ?_)⟩
      · have e2 := of_decide_eq_true e2
        have hb : badB F d i = true := by
          unfold badB
          rw [decide_eq_true e, el]
          exact decide_eq_true (by omega)
        have : spB F d = false := by
          unfold spB
          rw [List.all_eq_false]
          exact ⟨i, List.mem_range.mpr hi, by rw [hb]; simp⟩
        rw [this, Bool.false_and] at q
        exact q _ s5
      · have e2 : ¬ (0 : Int) + i - p < d := fun z => e2 (decide_eq_true z)
        have hb : badB F d i = false := by
          unfold badB
          rw [decide_eq_true e, el]
          exact decide_eq_false (by omega)
        exact ⟨_, rfl, .ref dd, rfl, .ref l, rfl, _, rfl, l, LI F, _, .int (F.getD i 0), rfl, rfl, SqL.of hl5, hat, fin hb⟩
  · rintro σ H5 ⟨y4, y7, y8, T', rfl, s5, hd5, tb, ok⟩
    have hsp : spB F d = true := by
      unfold spB
      refine List.all_eq_true.mpr fun j hj => ?_
      rw [ok j (List.mem_range.mp hj)]
      rfl
    rw [hsp, Bool.true_and] at q
    refine ⟨.ref m, rfl, _, rfl, m, M, rfl, s5.seq hm, zM, fun H6 s6 => ?_⟩
    have s56 := s5.trans s6
    refine ⟨.ref m, rfl, _, rfl, m, M, rfl, s56.seq hm, zM, fun H7 c s7 nc hc => ⟨c, dk (tally M), rfl, hc, fun o => ⟨c, o, _, rfl, upd_same, fun D2 hD2 => ?_⟩⟩⟩
    have s57 := s56.trans s7
    have s8 : Same H (upd H7 c (.frz o (.dK (dk (tally M))))) := sm_put s57 (s56.free nc)
    have zc := tally_len M
    refine lc_pure (L := tally M) (fun p => if p.2 = mostI M then some (.int p.1) else none) (by rw [← dk_len]; exact walk_items) hD2 (by omega) (fun _ _ s g => s _ _ g) upd_same ?_ (fun H9 s9 hr9 => ?_)
    · rintro i hi x H10 H11 s10 g10 ⟨t, k, v, rfl, nT, rfl, hk, hv⟩ Z Zn z1 z2
      obtain ⟨rfl, rfl⟩ := dk_item hi hk hv
      refine ⟨t, _, rfl, SqT.of upd_same, rfl, _, _, rfl, _, _, rfl, rfl, rfl, _, rfl, .int (mostI M), rfl, rfl, _, rfl, ite2 (fun e => ?_) (fun e => ?_)⟩
      · have e' := V.int.inj (of_decide_eq_true e)
        exact ⟨_, rfl, z1 _ _ (if_pos e') (same_upd nT)⟩
      · exact z2 _ (if_neg fun z => e (decide_eq_true (congrArg V.int z))) (same_upd nT)
    · rw [fm_filter] at hr9
      have s89 := s8.trans s9
      refine ⟨D2, _, rfl, .inl (SqL.of hr9), ?_⟩
      rw [LI, List.length_map, List.length_map, cm_tally]
      refine ⟨.ref l, rfl, l, LI F, rfl, .inl (SqL.of (s89 _ _ hl)), .ref m, rfl, m, LI M, rfl, .inl (s89.seq hm), _, rfl, _, _, rfl, rfl, .int d, rfl, _, _, rfl, rfl, ?_, .int ((cmn M).length : Nat), rfl, _, _, rfl, rfl, by show 2 ≤ sizeLine; decide, fun w nw => ?_⟩
      · have := most_le_len M
        have := most_nn M
        exact .inl ⟨by omega, by omega⟩
      refine ⟨w, _, rfl, .inl (SqL.of upd_same), rfl, rfl, ?_⟩
      have : inV (V.int ((LI F).length : Nat)) [V.int ((LI M).length : Nat), V.int ((mostI M - 1) * d + ((cmn M).length : Nat))] = (decide (F.length = M.length) || decide ((F.length : Int) = (mostI M - 1) * d + (cmn M).length)) := by
        have e1 : ([V.int ((LI M).length : Nat), V.int ((mostI M - 1) * d + ((cmn M).length : Nat))] : List V) = LI [((LI M).length : Int), (mostI M - 1) * d + ((cmn M).length : Nat)] := rfl
        rw [e1, inV_li, LI, LI, List.length_map, List.length_map]
        rw [Bool.eq_iff_iff, Bool.or_eq_true, decide_eq_true_eq, decide_eq_true_eq, decide_eq_true_eq, List.mem_cons, List.mem_singleton]
        omega
      show Q (.bl (inV (V.int ((LI F).length : Nat)) [V.int ((LI M).length : Nat), V.int ((mostI M - 1) * d + ((cmn M).length : Nat))])) _
      rw [this]
      exact q _ (s89.trans (same_upd nw))
def sp_most_of (K : PySem.W.Frag) : Sp := sp1 fun x H Q _ => ∃ a L, x = .ref a ∧ SqL K H a (LI L) ∧ L.length ≤ 100000 ∧ ∀ H', Same H H' → Q (.int (mostI L)) H'
theorem k_most_of (T : Tp K mg base) : DefOk P w K mg base CX0 2 "most_of" ["heap"] (sp_most_of K) := by
  obtain ⟨fd, F⟩ := d_most_of T
  refine ⟨fd, F.ok sc_most_of len1 (fun cdv A outer s H vs Q E hr h => ?_), (F.bindsN fun _ _ _ _ _ _ us hl => match us, hl with | [_], _ => rfl), F.kp, g_most_of T⟩
  refine ⟨_, PSs.nox (pss_one (ps_ret (pe_callB (zmax K) (by rfl) (n_max T) (by decide +kernel) (pa_cons (pe_op op_cat (pe_lst (pa_cons pe_int pa_nil)) (pe_listVals rfl (pe_fn (k_counts_of T) (hr.mono (by decide)) (by rfl) pass0 (pa_cons (pv 0) pa_nil)) (by rfl) (n_list T))) pa_nil)))), ?_⟩
  obtain ⟨_, rfl, a, L, rfl, hS, hl, q⟩ := h
  have zc := cn_len L
  refine ⟨by show 1 ≤ sizeLine; decide, fun c nc => ?_⟩
  have s1 : Same H (upd H c (.lst [.int 0])) := same_upd nc
  refine ⟨.ref a, rfl, _, rfl, a, L, rfl, s1.seq hS, hl, fun H2 d s2 nd hd => ?_⟩
  refine ⟨d, _, rfl, hd, fun v nv => ?_⟩
  have hc3 := same_upd (o := .lst ((dk (cn L)).map (·.2))) nv _ _ (s2 _ _ upd_same)
  have s3 := (s1.trans s2).trans (same_upd (o := .lst ((dk (cn L)).map (·.2))) nv)
  refine ⟨c, v, _, _, rfl, rfl, hc3, upd_same, ?_, fun p np => ?_⟩
  · rw [List.length_map, dk_len]
    refine sz_le ?_
    show 1 + _ ≤ _
    omega
  refine ⟨p, 0 :: (cn L).map (·.2), rfl, SqL.of (by rw [upd_same, dk_vals]; rfl), Nat.zero_lt_succ _, fun m hm hle => ?_⟩
  have em : m = mostI L := mx_eq (List.mem_cons.mp hm) (hle 0 List.mem_cons_self) fun y hy => hle y (List.mem_cons_of_mem _ hy)
  rw [em]
  exact q _ (s3.trans (same_upd np))
/-- the table of the last places -/
structure TabL (T : Tab) (F : List Int) (i : Nat) : Prop where
  nd : (T.map (·.1)).Nodup
  val : ∀ k, lk T k = if k = -1 then none else lastI F i k
  len : T.length ≤ i
theorem TabL.step {T : Tab} {F : List Int} {i : Nat} (h : TabL T F i) (e : F.getD i 0 ≠ -1) : TabL (pu T (F.getD i 0) (i : Int)) F (i + 1) := by
  refine ⟨pu_nodup _ _ h.nd, fun k => ?_, ?_⟩
  · rw [lk_pu, h.val, lastI_succ]
    by_cases e2 : k = F.getD i 0
    · rw [if_pos e2, if_neg (by rw [e2]; exact e), if_pos e2.symm]
    · rw [if_neg e2, if_neg (c := F.getD i 0 = k) (fun z => e2 z.symm)]
  · have := pu_len T (F.getD i 0) i
    have := h.len
    omega
theorem TabL.skip {T : Tab} {F : List Int} {i : Nat} (h : TabL T F i) (e : F.getD i 0 = -1) : TabL T F (i + 1) := by
  refine ⟨h.nd, fun k => ?_, by have := h.len; omega⟩
  rw [h.val]
  by_cases e2 : k = -1
  · rw [if_pos e2, if_pos e2]
  · rw [if_neg e2, if_neg e2]
    rw [lastI_succ, if_neg (by rw [e]; exact fun z => e2 z.symm)]
def sp_Spaced_shows (K : PySem.W.Frag) : Sp := sp3 fun x y z H Q _ => ∃ a dx l F m M d, x = .ref a ∧ y = .ref m ∧ z = .int d ∧ H a = some (.ins (He.ga K "Spaced") dx [("kinds", .ref l)]) ∧ H l = some (.lst (LI F)) ∧ SqL K H m (LI M) ∧ M.length ≤ 100000 ∧ F.length ≤ 100000 ∧
  ∀ H', Same H H' → Q (.bl (showsS F M d)) H'
theorem k_Spaced_shows (T : Tp K mg base) : MetOk P w K mg base CX0 3 "Spaced" "shows" ["self", "heap", "apart"] (sp_Spaced_shows K) := by
  obtain ⟨fd, F⟩ := d_Spaced_shows T
  refine ⟨_, fd, F.ok sc_Spaced_shows len3 (fun cdv A outer s H vs Q E hr h => ?_), (F.bindsN fun _ _ _ _ _ _ us hl => match us, hl with | [_, _, _], _ => rfl), cls_Spaced T, me_Spaced_shows T⟩
  refine ⟨_, PSs.nox (pss_cons (ps_if (pt_cmpR (zneD K hr.units) (pe_callB (zsorted K) (by rfl) (n_sorted T) (by decide +kernel) (pa_cons (pe_lc (own := [("kind", 3)]) (g := gName 3) (by rfl) sc_Spaced_shows.nd (pi_list (zfld K (pv 0) (by rfl))) (blkOk_by (own := [("kind", 3)]) (N := N_Spaced_shows) (sc := defScope s_Spaced_shows) (by decide +kernel)) (fun _ _ _ _ _ => pg_name (i := 3) sc_Spaced_shows.nd rfl (Or.inl rfl)) (fun _ _ _ _ _ => pts_one (pt_cmpR op_ne (pv 3) (pe_un un_neg pe_int) (nomark _))) (fun _ _ _ _ _ => (pv 3))) pa_nil)) (pe_callB (zsorted K) (by rfl) (n_sorted T) (by decide +kernel) (pa_cons (pv 1) pa_nil)) (nomark _)) (pss_one (ps_ret pe_bl)) pss_nil)
      (pss_cons (ps_set (i := 4) sc_Spaced_shows.nd rfl (Or.inl rfl) pe_dnewK)
      (pss_cons (ps_for PassesOwn.never rfl (pi_enum (by rfl) (n_enumerate T) (pa_cons (zfld K (pv 0) (by rfl)) pa_nil)) (pg_tup rfl (pgs_cons (pg_name (i := 5) sc_Spaced_shows.nd rfl (Or.inl rfl)) (pgs_cons (pg_name (i := 3) sc_Spaced_shows.nd rfl (Or.inl rfl)) pgs_nil)))
        (pss_one (ps_if (pt_cmpR op_ne (pv 3) (pe_un un_neg pe_int) (nomark _)) (pss_cons (ps_if (pt_cmpR op_lt (pe_op op_sub (pv 5) (pe_dget2 (hu_of hr) (pv 4) (pv 3) (pe_op op_sub (pv 5) (pv 2)) ⟨by rfl, by rfl, by rfl, by rfl⟩)) (pv 2) (nomark _)) (pss_one (ps_ret pe_bl)) pss_nil)
      (pss_one (ps_dput (hu_of hr) (pv 4) (pv 3) (pv 5) (by rfl)))) pss_nil)))
      (pss_cons (ps_if (pt_cmpR op_eq (pe_callB (zlen K) (by rfl) (n_len T) (by decide +kernel) (pa_cons (zfld K (pv 0) (by rfl)) pa_nil)) (pe_callB (zlen K) (by rfl) (n_len T) (by decide +kernel) (pa_cons (pv 1) pa_nil)) (nomark _)) (pss_one (ps_ret pe_bl)) pss_nil)
      (pss_cons (ps_set (i := 6) sc_Spaced_shows.nd rfl (Or.inr rfl) (pe_fn (k_counts_of T) (hr.mono (by decide)) (by rfl) pass0 (pa_cons (pv 1) pa_nil)))
      (pss_cons (ps_set (i := 7) sc_Spaced_shows.nd rfl (Or.inr rfl) (pe_fn (k_most_of T) (hr.mono (by decide)) (by rfl) pass0 (pa_cons (pv 1) pa_nil)))
      (pss_one (ps_ret (pe_cmpR op_eq (pe_callB (zlen K) (by rfl) (n_len T) (by decide +kernel) (pa_cons (zfld K (pv 0) (by rfl)) pa_nil)) (pe_op op_add (pe_op op_mul (pe_op op_sub (pv 7) pe_int) (pv 2)) (pe_callB (zlen K) (by rfl) (n_len T) (by decide +kernel) (pa_cons (pe_lc (own := [("kind", 3)]) (g := gName 3) (by rfl) sc_Spaced_shows.nd (pi_keysN (pv 6)) (blkOk_by (own := [("kind", 3)]) (N := N_Spaced_shows) (sc := defScope s_Spaced_shows) (by decide +kernel)) (fun _ _ _ _ _ => pg_name (i := 3) sc_Spaced_shows.nd rfl (Or.inl rfl)) (fun _ _ _ _ _ => pts_one (pt_cmpR op_eq (pe_dget (hu_of hr) (pv 6) (pv 3) (fun _ _ => rfl)) (pv 7) (nomark _))) (fun _ _ _ _ _ => (pv 3))) pa_nil))) (nomark _)))))))))), ?_⟩
  obtain ⟨_, _, _, rfl, a, dx, l, F, m, M, d, rfl, rfl, rfl, ha, hl, hm, zM, zF, q⟩ := h
  refine ⟨.ref a, rfl, a, _, dx, _, .ref l, rfl, ha, cls_Spaced T, na_Spaced_kinds T, rfl, l, rfl, ⟨_, SqL.of hl⟩, fun D hD => ?_⟩
  refine lc_pure (L := F) (fun z => if z ≠ -1 then some (.int z) else none) (by rw [← List.length_map (f := V.int)]; exact walk_list) hD zF (fun _ _ s g => s.seq g) (SqL.of hl) ?_ (fun H1 s1 hr1 => ?_)
  · rintro i hi x H5 _ s5 _ ⟨rfl, hx⟩ Z Zn z1 z2
    rw [li_get hi] at hx
    obtain rfl := Option.some.inj hx
    refine ⟨rfl, _, rfl, _, rfl, rfl, _, rfl, ?_⟩
    rw [dec_nm]
    by_cases e : F[i] ≠ -1
    · rw [decide_eq_true e]
      exact iteT ⟨_, rfl, z1 _ _ (if_pos e) (Same.refl _)⟩
    · rw [decide_eq_false e]
      exact iteF (z2 _ (if_neg e) (Same.refl _))
  rw [fm_nogap] at hr1
  refine ⟨D, nogap F, rfl, SqL.of hr1, fun ns p pr so np => ?_⟩
  have e1 := sorted_eq pr so
  subst e1
  have s2 := s1.trans (same_upd (o := .lst (LI (srt (nogap F)))) np)
  refine ⟨.ref m, rfl, m, M, rfl, s2.seq hm, fun ns p2 pr2 so2 np2 => ?_⟩
  have e2 := sorted_eq pr2 so2
  subst e2
  have s3 := s2.trans (same_upd (o := .lst (LI (srt M))) np2)
  have g1 := same_upd (o := .lst (LI (srt M))) np2 _ _ (upd_same (H := H1) (a := p) (o := .lst (LI (srt (nogap F)))))
  have g2 := upd_same (H := upd H1 p (.lst (LI (srt (nogap F))))) (a := p2) (o := .lst (LI (srt M)))
  generalize upd (upd H1 p (.lst (LI (srt (nogap F))))) p2 (.lst (LI (srt M))) = H3 at s3 g1 g2
  by_cases e : srt (nogap F) = srt M
  case neg =>
    refine ⟨dI _, dI _, dp_li (SqL.of g1), dp_li (SqL.of g2), shaped_dI _, shaped_dI _, true, by rw [eqv_dI, decide_eq_false e]; rfl, iteT ?_⟩
    have hr : showsS F M d = false := by
      unfold showsS
      rw [decide_eq_false e, Bool.false_and]
    rw [hr] at q
    exact q _ s3
  refine ⟨dI _, dI _, dp_li (SqL.of g1), dp_li (SqL.of g2), shaped_dI _, shaped_dI _, false, by rw [eqv_dI, decide_eq_true e]; rfl, iteF ?_⟩
  have hr : showsS F M d = (spB F d && (decide (F.length = M.length) || decide ((F.length : Int) = (mostI M - 1) * d + (cmn M).length))) := by
    unfold showsS
    rw [decide_eq_true e, Bool.true_and]
  rw [hr] at q
  clear hr g1 g2
  intro dd nd
  have s4 := s3.trans (same_upd (o := .dK []) nd)
  refine ⟨.ref a, rfl, a, _, dx, _, .ref l, rfl, s4 _ _ ha, cls_Spaced T, na_Spaced_kinds T, rfl, l, LI F, rfl, SqL.of (s4 _ _ hl), ?_⟩
  refine for_it (walk_enum (xs := LI F)) (fun i σ H' => ∃ y3 y5 T', σ = [some (.ref a), some (.ref m), some (.int d), y3, some (.ref dd), y5, none, none] ∧ Same H H' ∧ H' dd = some (.dK (dk T')) ∧ TabL T' F i ∧ ∀ j < i, badB F d j = false)
    ⟨_, _, [], rfl, s4, upd_same, ⟨by simp, fun k => by simp [lk, lastI], Nat.le_refl _⟩, fun j hj => absurd hj (Nat.not_lt_zero _)⟩ (fun i σ H' _ ⟨_, _, _, _, s, _⟩ => SqL.of (s _ _ hl)) ?_ ?_
  · rintro i x σ H5 _ hi ⟨y3, y5, T', rfl, s5, hd5, tb, ok⟩ ⟨t, x1, x2, rfl, nt, rfl, ex1, ex2⟩
    rw [LI, List.length_map] at hi
    obtain rfl := Option.some.inj ex1
    have ex2 : (LI F)[i]? = some x2 := ex2
    rw [li_getD hi] at ex2
    obtain rfl := Option.some.inj ex2
    have s6 := s5.trans (same_upd (o := .tup [.int (i : Nat), .int (F.getD i 0)]) nt)
    have hd6 := same_upd (o := .tup [.int (i : Nat), .int (F.getD i 0)]) nt _ _ hd5
    refine ⟨t, _, rfl, SqT.of upd_same, rfl, _, _, rfl, _, _, rfl, rfl, _, rfl, _, rfl, rfl, _, rfl, ?_⟩
    generalize upd H5 t (.tup [.int (i : Nat), .int (F.getD i 0)]) = H6 at s6 hd6
    rw [dec_nm]
    have ok1 : badB F d i = false → ∀ j < i + 1, badB F d j = false := fun hb j hj => by
      by_cases e : j < i
      · exact ok j e
      · obtain rfl : j = i := by omega
        exact hb
    by_cases e : F.getD i 0 ≠ -1
    case neg =>
      rw [decide_eq_false e]
      refine iteF ⟨_, _, T', rfl, s6, hd6, tb.skip (Classical.not_not.mp e), ok1 ?_⟩
      unfold badB
      rw [decide_eq_false e, Bool.false_and]
    rw [decide_eq_true e]
    refine iteT ?_
    refine ⟨_, rfl, .ref dd, rfl, dd, rfl, .inl ⟨_, .inl hd6⟩, _, rfl, _, rfl, _, rfl, _, _, rfl, rfl, _, DGet.k (k := Sum.inl (F.getD i 0)) hd6, (i : Int), (lastI F i (F.getD i 0)).getD ((i : Int) - d), rfl, ?_, .int d, rfl, _, _, rfl, rfl, _, rfl, ite2 (fun e2 => ?_) (fun e2 => ?_)⟩
    · rw [dk_val, tb.val, if_neg e]
      cases lastI F i (F.getD i 0) <;> rfl
    · have e2 := of_decide_eq_true e2
      have hb : badB F d i = true := by
        unfold badB
        rw [decide_eq_true e, Bool.true_and]
        cases el : lastI F i (F.getD i 0) with
        | none => rw [el] at e2; simp only [Option.getD_none] at e2; omega
        | some p => rw [el] at e2; exact decide_eq_true e2
      have : spB F d = false := by
        unfold spB
        rw [List.all_eq_false]
        exact ⟨i, List.mem_range.mpr hi, by rw [hb]; simp⟩
      rw [this, Bool.false_and] at q
      exact q _ s6
    · have hb : badB F d i = false := by
        unfold badB
        rw [decide_eq_true e, Bool.true_and]
        cases el : lastI F i (F.getD i 0) with
        | none => rfl
        | some p =>
          rw [el] at e2
          exact eq_false_of_ne_true e2
      refine ⟨_, rfl, .ref dd, rfl, _, rfl, dd, _, rfl, DPut.k (k := Sum.inl (F.getD i 0)) hd6 (sz_lt (by rw [dk_len]; have := tb.len; omega)), ?_⟩
      rw [dk_put _ _ _ tb.nd]
      exact ⟨_, _, _, rfl, sm_put s6 (s3.free nd), upd_same, tb.step e, ok1 hb⟩
  · rintro σ H5 ⟨y3, y5, T', rfl, s5, hd5, tb, ok⟩
    rw [LI, List.length_map] at ok
    have hsp : spB F d = true := by
      unfold spB
      refine List.all_eq_true.mpr fun j hj => ?_
      rw [ok j (List.mem_range.mp hj)]
      rfl
    rw [hsp, Bool.true_and] at q
    refine ⟨.ref a, rfl, a, _, dx, _, .ref l, rfl, s5 _ _ ha, cls_Spaced T, na_Spaced_kinds T, rfl, l, LI F, rfl, .inl (SqL.of (s5 _ _ hl)), .ref m, rfl, m, _, rfl, .inl (s5.seq hm), rfl, _, rfl, ?_⟩
    by_cases e3 : F.length = M.length
    · rw [show decide (V.int ((LI F).length : Nat) = V.int ((LI M).length : Nat)) = true by
        refine decide_eq_true ?_
        rw [LI, LI, List.length_map, List.length_map, e3]]
      rw [decide_eq_true e3, Bool.true_or] at q
      exact iteT (q _ s5)
    rw [show decide (V.int ((LI F).length : Nat) = V.int ((LI M).length : Nat)) = false by
      refine decide_eq_false fun z => e3 ?_
      have := V.int.inj z
      rw [LI, LI, List.length_map, List.length_map] at this
      omega]
    rw [decide_eq_false e3, Bool.false_or] at q
    refine iteF ?_
    refine ⟨.ref m, rfl, _, rfl, m, M, rfl, s5.seq hm, zM, fun H6 c s6 nc hc => ?_⟩
    have s56 := s5.trans s6
    refine ⟨.ref m, rfl, _, rfl, m, M, rfl, s56.seq hm, zM, fun H7 s7 => ?_⟩
    have s57 := s56.trans s7
    have hc7 := s7 _ _ hc
    refine ⟨.ref a, rfl, a, _, dx, _, .ref l, rfl, s57 _ _ ha, cls_Spaced T, na_Spaced_kinds T, rfl, l, LI F, rfl, .inl (SqL.of (s57 _ _ hl)), _, rfl, _, _, rfl, rfl, _, rfl, _, _, rfl, rfl, ?_, ?_⟩
    · have := most_le_len M
      have := most_nn M
      exact .inl ⟨by omega, by omega⟩
    refine ⟨.ref c, rfl, c, dk (cn M), rfl, hc7, fun o => ⟨c, o, rfl, .inl ⟨_, upd_same, fun D2 hD2 => ?_⟩⟩⟩
    have s8 : Same H (upd H7 c (.frz o (.dK (dk (cn M))))) := sm_put s57 (s5.free nc)
    have zc := cn_len M
    refine lc_pure (L := cn M) (fun p => if p.2 = mostI M then some (.int p.1) else none) (by rw [← dk_len]; exact walk_keys) hD2 (by omega) (fun _ _ s g => s _ _ g) upd_same ?_ (fun H9 s9 hr9 => ?_)
    · rintro i hi x H10 H11 s10 g10 ⟨rfl, k, v, hx, rfl⟩ Z Zn z1 z2
      rw [dk_get hi] at hx
      obtain ⟨rfl, rfl⟩ := Prod.mk.inj (Option.some.inj hx)
      refine ⟨rfl, .ref c, rfl, _, rfl, c, .int (cn M)[i].2, rfl, .inl ⟨_, Sum.inl (cn M)[i].1, .inr ⟨o, g10⟩, rfl, ?_⟩, .int (mostI M), rfl, rfl, _, rfl, ite2 (fun e => ?_) (fun e => ?_)⟩
      · rw [dk_val, lk_of_mem (cn_nodup M) (List.getElem_mem hi)]
        rfl
      · have e' := V.int.inj (of_decide_eq_true e)
        exact ⟨_, rfl, z1 _ _ (if_pos e') (Same.refl _)⟩
      · exact z2 _ (if_neg fun z => e (decide_eq_true (congrArg V.int z))) (Same.refl _)
    · rw [fm_filter] at hr9
      refine ⟨D2, LI (cmn M), rfl, .inl (SqL.of hr9), _, _, rfl, rfl, rfl, ?_⟩
      have : decide (V.int ((LI F).length : Nat) = V.int ((mostI M - 1) * d + ((LI (cmn M)).length : Nat))) = decide ((F.length : Int) = (mostI M - 1) * d + (cmn M).length) := by
        rw [LI, LI, List.length_map, List.length_map]
        by_cases z : (F.length : Int) = (mostI M - 1) * d + (cmn M).length
        · rw [decide_eq_true z, decide_eq_true (congrArg V.int z)]
        · rw [decide_eq_false z, decide_eq_false fun y => z (V.int.inj y)]
      rw [this]
      exact q _ (s8.trans s9)
def sp__law_gaps_right (K : PySem.W.Frag) : Sp := sp2 fun x y H Q _ => ∃ a L c, x = .ref a ∧ SqL K H a (LI L) ∧ Good L ∧ L.length ≤ 63 ∧ (∀ z ∈ L, z ≠ -1) ∧ TabK K H ∧ y = .int c ∧ ∀ H', Sm K H H' → Q (.bl true) H'
theorem k__law_gaps_right (T : Tp K mg base) : DefOk P w K mg base CX0 6 "_law_gaps_right" ["_law_heap_here", "_law_cell"] (sp__law_gaps_right K) := by
  obtain ⟨fd, F⟩ := d__law_gaps_right T
  refine ⟨fd, F.ok sc__law_gaps_right len2 (fun cdv A outer s H vs Q E hr h => ?_), (F.bindsN fun _ _ _ _ _ _ us hl => match us, hl with | [_, _], _ => rfl), F.kp, g__law_gaps_right T⟩
  refine ⟨_, PSs.nox (pss_cons (ps_set (i := 2) sc__law_gaps_right.nd rfl (Or.inl rfl) (pe_op op_add pe_int (pe_fn (k__law_draw T) (hr.mono (by decide)) (by rfl) pass0 (pa_cons (pv 1) (pa_cons pe_int (pa_cons pe_int pa_nil))))))
      (pss_cons (ps_set (i := 3) sc__law_gaps_right.nd rfl (Or.inl rfl) (pe_fn (k__law_bent T) (hr.mono (by decide)) (by rfl) pass0 (pa_cons (zfld K (pe_fn (k_spaced T) (hr.mono (by decide)) (by rfl) pass0 (pa_cons (pv 0) (pa_cons (pv 2) pa_nil))) (by rfl)) (pa_cons (pv 1) pa_nil))))
      (pss_cons (ps_set (i := 4) sc__law_gaps_right.nd rfl (Or.inl rfl) (pe_callTy (zlist K) (by rfl) (n_list T) (by decide +kernel) (pa_cons (pv 3) pa_nil)))
      (pss_cons (ps_set (i := 5) sc__law_gaps_right.nd rfl (Or.inl rfl) (zmk K rfl (m_Spaced T) (hr.mono (by decide)) (by rfl) pass0 (pa_cons (pv 4) pa_nil)))
      (pss_cons (ps_expr (pe_bm PySem.F.plainAttrs_list PySem.F.slot_list_append PySem.F.type_list_append mt_append (pv 4) (pa_cons pe_int pa_nil)))
      (pss_cons (ps_if (pt_cmpR (zneD K hr.units) (zfld K (pv 5) (by rfl)) (pv 3) (nomark _)) (pss_one (ps_ret pe_bl)) pss_nil)
      (pss_cons (ps_for PassesOwn.never rfl (pi_tup (pe_tup (pa_cons (pv 2) (pa_cons (pe_op op_add (pv 2) pe_int) (pa_cons pe_int pa_nil))))) (pg_name (i := 6) sc__law_gaps_right.nd rfl (Or.inl rfl))
        (pss_one (ps_if (pt_not (pt_val (pe_fn (k__law_says T) (hr.mono (by decide)) (by rfl) pass0 (pa_cons (zmt K rfl (k_Spaced_shows T) (hr.mono (by decide)) pass0 (pv 5) (pa_cons (pv 0) (pa_cons (pv 6) pa_nil))) (pa_cons (pe_fn (k__law_spaced T) (hr.mono (by decide)) (by rfl) pass0 (pa_cons (pv 0) (pa_cons (pv 3) (pa_cons (pv 6) pa_nil)))) pa_nil))))) (pss_one (ps_ret pe_bl)) pss_nil)))
      (pss_one (ps_ret pe_bl))))))))), ?_⟩
  obtain ⟨_, _, rfl, a, L, c, rfl, hS, hg, zL, hzz, hT, rfl, q⟩ := h
  refine ⟨_, rfl, _, _, _, rfl, c, 5, 4, rfl, rfl, rfl, by decide, by decide, fun H1 s1 => ⟨_, _, rfl, rfl, ?_⟩⟩
  have b1 := draw_nn c 5 4 (by decide)
  generalize draw c 5 4 = d at b1
  obtain ⟨n, hn⟩ : ∃ n : Nat, 1 + d = (n : Int) := ⟨(1 + d).toNat, by omega⟩
  have hn1 : 1 ≤ n := by omega
  have hn4 : n ≤ 4 := by omega
  refine ⟨.ref a, rfl, _, rfl, _, _, rfl, a, L, n, rfl, s1.seq hS, hg, by omega, hT.ext s1, congrArg V.int hn, hn1, by omega, fun H2 o dx l sd => ?_⟩
  obtain ⟨s2, fo, fl, ho, hl⟩ := sd
  have zr : (rowS L n).length ≤ 315 := Nat.le_trans (rowS_len (d := n) hzz) (by have : L.length * n ≤ 63 * 4 := Nat.mul_le_mul zL hn4; omega)
  refine ⟨o, _, dx, _, .ref l, rfl, ho, cls_Spaced T, na_Spaced_kinds T, rfl, _, rfl, _, _, rfl, l, rowS L n, c, rfl, SqL.of hl, by omega, rfl, fun H3 k F s3 nk hk zF => ?_⟩
  have s03 : Sm K H H3 := (sm_of s1).trans (s2.trans (sm_of s3))
  refine ⟨.ref k, rfl, k, LI F, rfl, .inl (SqL.of hk), fun h nh => ?_⟩
  have s04 := sm_new (o := .lst (LI F)) s03 nh
  have fh := s03.fr (Fr.of nh)
  have hk4 := same_upd (o := .lst (LI F)) nh _ _ hk
  have hh4 := upd_same (H := H3) (a := h) (o := .lst (LI F))
  have kh : k ≠ h := ne_of_none hk nh
  generalize upd H3 h (.lst (LI F)) = H4 at s04 hk4 hh4
  refine ⟨_, rfl, fun o1 dx1 no1 ndx1 ne1 => ?_⟩
  have t1 : Same H4 (upd (upd H4 dx1 (.own o1)) o1 (.ins (He.ga K "Spaced") dx1 [])) := sm_put (same_upd ndx1) no1
  refine ⟨_, _, rfl, o1, dx1, h, _, rfl, rfl, upd_same, SqL.of (t1 _ _ hh4), fun H5 l1 sX1 nl1 ho1 hl1 => ⟨rfl, ?_⟩⟩
  have s45 : Same H4 H5 := fun b u e => sX1 b u (ne_of_none e no1) (t1 b u e)
  have nl1' : H4 l1 = none := t1.free nl1
  have hh5 := s45 _ _ hh4
  refine ⟨.ref h, rfl, .inl ⟨rfl, _, SqL.of hh5⟩, h, LI F, .int 0, rfl, rfl, hh5, sz_lt (by rw [LI, List.length_map]; omega), ?_⟩
  have n1 : l1 ≠ h := fun z => by rw [z, hh4] at nl1'; cases nl1'
  have n3 : o1 ≠ h := fun z => by rw [z, hh4] at no1; cases no1
  have s06 : Sm K H (upd H5 h (.lst (LI F ++ [.int 0]))) := sm_mut (s04.trans (sm_of s45)) fh hh5
  have hk6 : upd H5 h (.lst (LI F ++ [.int 0])) k = some (.lst (LI F)) := (upd_ne kh).trans (s45 _ _ hk4)
  have ho6 : upd H5 h (.lst (LI F ++ [.int 0])) o1 = _ := (upd_ne n3).trans ho1
  have hl6 : upd H5 h (.lst (LI F ++ [.int 0])) l1 = some (.lst (LI F)) := (upd_ne n1).trans hl1
  generalize upd H5 h (.lst (LI F ++ [.int 0])) = H6 at s06 hk6 ho6 hl6
  refine ⟨.ref o1, rfl, o1, _, dx1, _, .ref l1, rfl, ho6, cls_Spaced T, na_Spaced_kinds T, rfl, .ref k, rfl, dI F, dI F, dp_li (SqL.of hl6), dp_li (SqL.of hk6), shaped_dI _, shaped_dI _, false, by rw [eqv_dI, decide_eq_true rfl]; rfl, iteF ?_⟩
  refine ⟨_, rfl, _, rfl, _, _, rfl, rfl, by show 3 ≤ sizeLine; decide, fun u nu => ?_⟩
  refine ⟨u, rfl, ⟨_, SqT.of upd_same⟩, ?_⟩
  have s67 := same_upd (o := .tup [.int (1 + d), .int (1 + d + 1), .int 1]) nu
  have hu7 := upd_same (H := H6) (a := u) (o := .tup [.int (1 + d), .int (1 + d + 1), .int 1])
  generalize upd H6 u (.tup [.int (1 + d), .int (1 + d + 1), .int 1]) = H7 at s67 hu7
  refine for_it (walk_tup (xs := [.int (1 + d), .int (1 + d + 1), .int 1])) (fun i σ H' => ∃ y6, σ = [some (.ref a), some (.int c), some (.int (1 + d)), some (.ref k), some (.ref h), some (.ref o1), y6] ∧ Same H7 H')
    ⟨_, rfl, Same.refl _⟩ (fun i σ H' _ ⟨_, _, s⟩ => SqT.of (s _ _ hu7)) ?_ ?_
  · rintro i x σ _ H8 hi ⟨y6, rfl, s8⟩ ⟨rfl, hx⟩
    obtain ⟨e, rfl⟩ : ∃ e : Int, x = .int e := by
      match i, hi, hx with
      | 0, _, hx => exact ⟨_, (Option.some.inj hx).symm⟩
      | 1, _, hx => exact ⟨_, (Option.some.inj hx).symm⟩
      | 2, _, hx => exact ⟨_, (Option.some.inj hx).symm⟩
    clear hx
    have s68 := s67.trans s8
    have s08 := s06.trans (sm_of s68)
    refine ⟨.ref o1, rfl, o1, dx1, _, rfl, s68 _ _ ho6, rfl, .ref a, rfl, _, rfl, _, _, _, rfl, o1, dx1, l1, F, a, L, e, rfl, rfl, rfl, s68 _ _ ho6, s68 _ _ hl6, s08.seq hS, hg.len, by omega, fun H9 s9 => ?_⟩
    have s69 := s68.trans s9
    refine ⟨.ref a, rfl, .ref k, rfl, _, rfl, _, _, _, rfl, a, L, k, F, e, rfl, (s06.trans (sm_of s69)).seq hS, hg.len, rfl, s69 _ _ hk6, by omega, rfl, fun H10 s10 => ?_⟩
    exact ⟨_, _, rfl, _, rfl, rfl, true, rfl, iteF ⟨_, rfl, (s8.trans s9).trans s10⟩⟩
  · rintro σ H8 ⟨y6, rfl, s8⟩
    exact q _ (s06.trans (sm_of (s67.trans s8)))
def sp_Much_shows (K : PySem.W.Frag) : Sp := sp2 fun x y H Q _ => ∃ a dx k m M, x = .ref a ∧ y = .ref m ∧ H a = some (.ins (He.ga K "Much") dx [("kind", .int k)]) ∧ SqL K H m (LI M) ∧ Q (.bl (decide (2 * (M.count k : Int) > M.length + 1))) H
theorem k_Much_shows (T : Tp K mg base) : MetOk P w K mg base CX0 1 "Much" "shows" ["self", "heap"] (sp_Much_shows K) := by
  obtain ⟨fd, F⟩ := d_Much_shows T
  refine ⟨_, fd, F.ok sc_Much_shows len2 (fun cdv A outer s H vs Q E hr h => ?_), (F.bindsN fun _ _ _ _ _ _ us hl => match us, hl with | [_, _], _ => rfl), cls_Much T, me_Much_shows T⟩
  refine ⟨_, PSs.nox (pss_one (ps_ret (pe_cmpR op_gt (pe_op op_mul pe_int (pe_bm PySem.F.plainAttrs_list PySem.F.slot_list_count PySem.F.type_list_count mt_lcount (pv 1) (pa_cons (zfld K (pv 0) (by rfl)) pa_nil))) (pe_op op_add (pe_callB (zlen K) (by rfl) (n_len T) (by decide +kernel) (pa_cons (pv 1) pa_nil)) pe_int) (nomark _)))), ?_⟩
  obtain ⟨_, _, rfl, a, dx, k, m, M, rfl, rfl, ha, hm, q⟩ := h
  refine ⟨.ref m, rfl, .inl ⟨rfl, _, hm⟩, .ref a, rfl, a, _, dx, _, .int k, rfl, ha, cls_Much T, na_Much_kind T, rfl, m, M, k, rfl, rfl, hm, _, _, rfl, rfl, .inl ⟨by decide, by decide⟩, .ref m, rfl, m, _, rfl, .inl hm, _, _, rfl, rfl, _, _, rfl, rfl, ?_⟩
  rw [LI, List.length_map]
  exact q
def sp_laid (K : PySem.W.Frag) : Sp := sp1 fun x H Q _ => ∃ a L, x = .ref a ∧ SqL K H a (LI L) ∧ Good L ∧ TabK K H ∧ ∀ H' p, Sm K H H' → Fr H p → H' p = some (.lst (LI (lay L))) → Q (.ref p) H'
theorem k_laid (T : Tp K mg base) : DefOk P w K mg base CX0 4 "laid" ["heap"] (sp_laid K) := by
  obtain ⟨fd, F⟩ := d_laid T
  refine ⟨fd, F.ok sc_laid len1 (fun cdv A outer s H vs Q E hr h => ?_), (F.bindsN fun _ _ _ _ _ _ us hl => match us, hl with | [_], _ => rfl), F.kp, g_laid T⟩
  refine ⟨_, PSs.nox (pss_cons (ps_set (i := 1) sc_laid.nd rfl (Or.inl rfl) (pe_fn (k_by_count T) (hr.mono (by decide)) (by rfl) pass0 (pa_cons (pv 0) pa_nil)))
      (pss_cons (ps_set (i := 2) sc_laid.nd rfl (Or.inl rfl) (pe_callTy (zlist K) (by rfl) (n_list T) (by decide +kernel) (pa_cons (pv 1) pa_nil)))
      (pss_cons (ps_set (i := 3) sc_laid.nd rfl (Or.inl rfl) (pe_op op_fdiv (pe_op op_add (pe_callB (zlen K) (by rfl) (n_len T) (by decide +kernel) (pa_cons (pv 1) pa_nil)) pe_int) pe_int))
      (pss_cons (ps_asg (pe_slice (zslL K) (pv 1) po_none (po_some (pv 3))) (pg_step (a := 0) (pv 2) (by decide)))
      (pss_cons (ps_asg (pe_slice (zslL K) (pv 1) (po_some (pv 3)) po_none) (pg_step (a := 1) (pv 2) (by decide)))
      (pss_one (ps_ret (pv 2)))))))), ?_⟩
  obtain ⟨_, rfl, a, L, rfl, hS, hg, hT, q⟩ := h
  have hb := byc_len L
  refine ⟨.ref a, rfl, _, rfl, a, L, rfl, hS, hg.len, hT, fun H1 t s1 ft ht => ?_⟩
  refine ⟨.ref t, rfl, t, LI (byc L), rfl, .inl (SqL.of ht), fun f nf => ?_⟩
  have ff : Fr H f := s1.fr (Fr.of nf)
  have ht2 := same_upd (o := .lst (LI (byc L))) nf _ _ ht
  have tf2 : t ≠ f := ne_of_none ht nf
  refine ⟨.ref t, rfl, t, LI (byc L), rfl, .inl (SqL.of ht2), _, _, rfl, rfl, _, _, rfl, rfl, ⟨by decide, by decide⟩, ?_⟩
  have eh : (((LI (byc L)).length : Int) + 1) / 2 = (((L.length + 1) / 2 : Nat) : Int) := by
    rw [LI, List.length_map, hb]
    omega
  dsimp only
  rw [eh]
  refine ⟨.ref t, rfl, _, rfl, _, rfl, t, LI (byc L), rfl, SqL.of ht2, fun u nu => ?_⟩
  rw [cut_to, li_take]
  have ht3 := same_upd (o := .lst (LI ((byc L).take ((L.length + 1) / 2)))) nu _ _ ht2
  have hf3 := same_upd (o := .lst (LI ((byc L).take ((L.length + 1) / 2)))) nu _ _ (upd_same (H := H1) (a := f) (o := .lst (LI (byc L))))
  have fu : f ≠ u := fun z => by rw [← z, upd_same] at nu; cases nu
  refine ⟨.ref f, rfl, f, u, LI (byc L), LI ((byc L).take ((L.length + 1) / 2)), rfl, rfl, hf3, upd_same, fu, ?_, ?_⟩
  · rw [LI, LI, List.length_map, List.length_map, List.length_take, hb]
    omega
  rw [puts_li]
  have s3 : Sm K H (upd (upd H1 f (.lst (LI (byc L)))) u (.lst (LI ((byc L).take ((L.length + 1) / 2))))) := sm_new (sm_new s1 nf) nu
  have s4 : Sm K H (upd (upd (upd H1 f (.lst (LI (byc L)))) u (.lst (LI ((byc L).take ((L.length + 1) / 2))))) f (.lst (LI (puts (stp 0 (LI (byc L)).length) ((byc L).take ((L.length + 1) / 2)) (byc L))))) := sm_mut s3 ff hf3
  have ht4 : upd (upd (upd H1 f (.lst (LI (byc L)))) u (.lst (LI ((byc L).take ((L.length + 1) / 2))))) f (.lst (LI (puts (stp 0 (LI (byc L)).length) ((byc L).take ((L.length + 1) / 2)) (byc L)))) t = _ := (upd_ne tf2).trans ht3
  have hf4 := upd_same (H := upd (upd H1 f (.lst (LI (byc L)))) u (.lst (LI ((byc L).take ((L.length + 1) / 2))))) (a := f) (o := .lst (LI (puts (stp 0 (LI (byc L)).length) ((byc L).take ((L.length + 1) / 2)) (byc L))))
  generalize upd (upd (upd H1 f (.lst (LI (byc L)))) u (.lst (LI ((byc L).take ((L.length + 1) / 2))))) f (.lst (LI (puts (stp 0 (LI (byc L)).length) ((byc L).take ((L.length + 1) / 2)) (byc L)))) = H4 at s4 ht4 hf4
  have el : (LI (byc L)).length = L.length := by rw [LI, List.length_map, hb]
  rw [el] at hf4
  refine ⟨.ref t, rfl, _, rfl, _, rfl, t, LI (byc L), rfl, SqL.of ht4, fun v nv => ?_⟩
  rw [cut_from, li_drop]
  have hf5 := same_upd (o := .lst (LI ((byc L).drop ((L.length + 1) / 2)))) nv _ _ hf4
  have fv : f ≠ v := ne_of_none hf4 nv
  refine ⟨.ref f, rfl, f, v, _, LI ((byc L).drop ((L.length + 1) / 2)), rfl, rfl, hf5, upd_same, fv, ?_, ?_⟩
  · rw [LI, LI, List.length_map, List.length_map, List.length_drop, puts_len, hb]
    omega
  rw [puts_li, show (LI (puts (stp 0 L.length) ((byc L).take ((L.length + 1) / 2)) (byc L))).length = L.length by rw [LI, List.length_map, puts_len, hb], puts_lay]
  refine ⟨.ref f, rfl, q _ f (sm_mut (sm_new s4 nv) ff hf5) ff upd_same⟩
def UnOK (K : PySem.W.Frag) (L : List Int) (H H' : Hp) (o dx : Addr) : Prop :=
  (∃ l, Fr H l ∧ H' o = some (.ins (He.ga K "Row") dx [("kinds", .ref l)]) ∧ H' l = some (.lst (LI (lay L))) ∧ 2 * mostI L ≤ L.length + 1) ∨
  (∃ k, H' o = some (.ins (He.ga K "Much") dx [("kind", .int k)]) ∧ (L.length : Int) + 1 < 2 * (L.count k : Int))
def sp_unlike (K : PySem.W.Frag) : Sp := sp1 fun x H Q _ => ∃ a L, x = .ref a ∧ SqL K H a (LI L) ∧ Good L ∧ TabK K H ∧ ∀ H' o dx, Sm K H H' → Fr H o → UnOK K L H H' o dx → Q (.ref o) H'
theorem k_unlike (T : Tp K mg base) : DefOk P w K mg base CX0 5 "unlike" ["heap"] (sp_unlike K) := by
  obtain ⟨fd, F⟩ := d_unlike T
  refine ⟨fd, F.ok sc_unlike len1 (fun cdv A outer s H vs Q E hr h => ?_), (F.bindsN fun _ _ _ _ _ _ us hl => match us, hl with | [_], _ => rfl), F.kp, g_unlike T⟩
  refine ⟨_, PSs.nox (pss_cons (ps_expr (pe_fn (k_check_heap T) (hr.mono (by decide)) (by rfl) pass0 (pa_cons (pv 0) pa_nil)))
      (pss_cons (ps_for PassesOwn.never rfl (pi_list (pe_fn (k_commonest T) (hr.mono (by decide)) (by rfl) pass0 (pa_cons (pv 0) pa_nil))) (pg_name (i := 1) sc_unlike.nd rfl (Or.inl rfl))
        (pss_one (ps_if (pt_val (zmt K rfl (k_Much_shows T) (hr.mono (by decide)) pass0 (zmk K rfl (m_Much T) (hr.mono (by decide)) (by rfl) pass0 (pa_cons (pv 1) pa_nil)) (pa_cons (pv 0) pa_nil))) (pss_one (ps_ret (zmk K rfl (m_Much T) (hr.mono (by decide)) (by rfl) pass0 (pa_cons (pv 1) pa_nil)))) pss_nil)))
      (pss_one (ps_ret (zmk K rfl (m_Row T) (hr.mono (by decide)) (by rfl) pass0 (pa_cons (pe_fn (k_laid T) (hr.mono (by decide)) (by rfl) pass0 (pa_cons (pv 0) pa_nil)) pa_nil)))))), ?_⟩
  obtain ⟨_, rfl, a, L, rfl, hS, hg, hT, q⟩ := h
  refine ⟨.ref a, rfl, _, rfl, a, L, rfl, hS, hg, fun H1 s1 => ?_⟩
  refine ⟨.ref a, rfl, _, rfl, a, L, rfl, s1.seq hS, hg, fun H2 p s2 np hp => ?_⟩
  have s12 := s1.trans s2
  refine ⟨p, rfl, ⟨_, SqL.of hp⟩, ?_⟩
  refine for_it (walk_list (xs := LI (cmn L))) (fun i σ H' => ∃ y1, σ = [some (.ref a), y1] ∧ Same H H' ∧ H' p = some (.lst (LI (cmn L))) ∧ ∀ k ∈ (cmn L).take i, 2 * (L.count k : Int) ≤ L.length + 1)
    ⟨none, rfl, s12, hp, fun k hk => by cases hk⟩ (fun i σ H' _ ⟨_, _, _, h, _⟩ => SqL.of h) ?_ ?_
  · rintro i x σ _ H3 hi ⟨y1, rfl, s3, hp3, ok⟩ ⟨rfl, hx⟩
    rw [LI, List.length_map] at hi
    rw [li_get hi] at hx
    obtain rfl := Option.some.inj hx
    refine ⟨_, rfl, fun o dx no ndx ne => ?_⟩
    refine ⟨_, _, rfl, o, dx, _, rfl, rfl, upd_same, fun H4 sX ho => ⟨rfl, ?_⟩⟩
    have s4 : Same H3 H4 := fun b u e => sX b u (ne_of_none e no) (sm_put (same_upd ndx) no b u e)
    have s04 := s3.trans s4
    refine ⟨o, dx, _, rfl, ho, rfl, .ref a, rfl, _, _, rfl, o, dx, _, a, L, rfl, rfl, ho, s04.seq hS, _, rfl, ite2 (fun e => ?_) (fun e => ?_)⟩
    · have e' := of_decide_eq_true e
      refine ⟨_, rfl, fun o2 dx2 no2 ndx2 ne2 => ⟨_, _, rfl, o2, dx2, _, rfl, rfl, upd_same, fun H5 sX5 ho5 => ⟨rfl, ?_⟩⟩⟩
      have s5 : Same H4 H5 := fun b u e => sX5 b u (ne_of_none e no2) (sm_put (same_upd ndx2) no2 b u e)
      exact q H5 o2 dx2 (sm_of (s04.trans s5)) (Fr.of (s04.free no2)) (.inr ⟨_, ho5, by omega⟩)
    · have e' : ¬ 2 * (L.count (cmn L)[i] : Int) > L.length + 1 := fun z => e (decide_eq_true z)
      refine ⟨_, rfl, s04, s4 _ _ hp3, fun k hk => ?_⟩
      rw [List.take_add_one, List.getElem?_eq_getElem hi, List.mem_append] at hk
      rcases hk with hk | hk
      · exact ok k hk
      · rw [List.mem_singleton.mp hk]
        omega
  · rintro σ H3 ⟨y1, rfl, s3, hp3, ok⟩
    rw [LI, List.length_map, List.take_length] at ok
    have hm : 2 * mostI L ≤ L.length + 1 := cmn_le ok
    refine ⟨.ref a, rfl, _, rfl, a, L, rfl, s3.seq hS, hg, hT.ext s3, fun H4 f s4 ff hf => ?_⟩
    intro o dx no ndx ne
    refine ⟨_, _, rfl, o, dx, f, _, rfl, rfl, upd_same, SqL.of (sm_put (same_upd ndx) no _ _ hf), fun H5 l sX nl ho hl => ⟨rfl, ?_⟩⟩
    have s5 : Same H4 H5 := fun b u e => sX b u (ne_of_none e no) (sm_put (same_upd ndx) no b u e)
    have s04 : Sm K H H4 := (sm_of s3).trans s4
    have nl4 : H4 l = none := (sm_put (same_upd ndx) no).free nl
    exact q H5 o dx (s04.trans (sm_of s5)) (s04.fr (Fr.of no)) (.inl ⟨l, s04.fr (Fr.of nl4), ho, hl, hm⟩)
def sp__law_unlike (K : PySem.W.Frag) : Sp := sp1 fun x H Q _ => ∃ l F, x = .ref l ∧ H l = some (.lst (LI F)) ∧ F.length ≤ 100000 ∧ ∀ H', Same H H' → Q (.bl (adjB F)) H'
theorem k__law_unlike (T : Tp K mg base) : DefOk P w K mg base CX0 1 "_law_unlike" ["_law_kinds"] (sp__law_unlike K) := by
  obtain ⟨fd, F⟩ := d__law_unlike T
  refine ⟨fd, F.ok sc__law_unlike len1 (fun cdv A outer s H vs Q E hr h => ?_), (F.bindsN fun _ _ _ _ _ _ us hl => match us, hl with | [_], _ => rfl), F.kp, g__law_unlike T⟩
  refine ⟨_, PSs.nox (pss_one (ps_ret (pe_callB (zall K) (by rfl) (n_all T) (by decide +kernel) (pa_cons (pe_lc (own := [("_law_k", 1)]) (g := gName 1) (tt := tYes) (by rfl) sc__law_unlike.nd (pi_range1 (by rfl) (n_range T) (pa_cons (pe_op op_sub (pe_callB (zlen K) (by rfl) (n_len T) (by decide +kernel) (pa_cons (pv 0) pa_nil)) pe_int) pa_nil)) (blkOk_by (own := [("_law_k", 1)]) (N := N__law_unlike) (sc := defScope s__law_unlike) (by decide +kernel)) (fun _ _ _ _ _ => pg_name (i := 1) sc__law_unlike.nd rfl (Or.inl rfl)) (fun _ _ _ _ _ => pts_nil) (fun _ _ _ _ _ => (pe_cmpR op_ne (pe_ix (zixL K) (pv 0) (pv 1) (fun _ _ => rfl)) (pe_ix (zixL K) (pv 0) (pe_op op_add (pv 1) pe_int) (fun _ _ => rfl)) (nomark _)))) pa_nil)))), ?_⟩
  obtain ⟨_, rfl, l, F, rfl, hl, zF, q⟩ := h
  refine ⟨.ref l, rfl, l, LI F, rfl, .inl (SqL.of hl), _, _, rfl, rfl, _, rfl, by rw [List.length_map]; omega, by rw [List.length_map]; omega, fun D hD => ?_⟩
  refine lc_pure (L := List.range (F.length - 1)) (fun k => some (.bl (decide (F.getD k 0 ≠ F.getD (k + 1) 0)))) (G := fun _ => True) (Y := fun i H x H' => H' = H ∧ x = .int (0 + (i : Nat))) ?_ hD (by rw [List.length_range]; omega) (fun _ _ _ _ => trivial) trivial ?_ (fun H3 s3 hr3 => ?_)
  · rw [List.length_range, List.length_map, show ((F.length : Int) - 1).toNat = F.length - 1 by omega]
    exact walk_range
  · rintro i hi x H5 H6 s5 _ ⟨rfl, rfl⟩ Z Zn z1 z2
    rw [List.length_range] at hi
    rw [List.getElem_range] at z1
    have hl6 := s5 _ _ hl
    refine ⟨rfl, .ref l, rfl, _, rfl, l, LI F, _, .int (F.getD i 0), rfl, rfl, SqL.of hl6, at_of (j := i) (by omega) (li_getD (by omega)), ?_⟩
    refine ⟨.ref l, rfl, _, rfl, _, _, rfl, rfl, l, LI F, _, .int (F.getD (i + 1) 0), rfl, rfl, SqL.of hl6, at_of (j := i + 1) (by omega) (li_getD (by omega)), rfl, z1 _ _ ?_ (Same.refl _)⟩
    rw [dec_ne]
  · rw [fm_map] at hr3
    refine ⟨D, (List.range (F.length - 1)).map (fun k => decide (F.getD k 0 ≠ F.getD (k + 1) 0)), rfl, by rw [List.map_map]; exact SqL.of hr3, ?_⟩
    rw [all_map]
    exact q _ s3
def RiOK (K : PySem.W.Frag) (L : List Int) (H H' : Hp) (o dx : Addr) : Prop :=
  (∃ l, Fr H l ∧ H' o = some (.ins (He.ga K "Ring") dx [("kinds", .ref l)]) ∧ H' l = some (.lst (LI (lay L))) ∧ 2 * mostI L ≤ L.length) ∨
  (∃ k, H' o = some (.ins (He.ga K "Much") dx [("kind", .int k)]) ∧ (L.length : Int) < 2 * (L.count k : Int))
def sp_ringed (K : PySem.W.Frag) : Sp := sp1 fun x H Q _ => ∃ a L, x = .ref a ∧ SqL K H a (LI L) ∧ Good L ∧ 2 ≤ L.length ∧ TabK K H ∧ ∀ H' o dx, Sm K H H' → Fr H o → RiOK K L H H' o dx → Q (.ref o) H'
theorem k_ringed (T : Tp K mg base) : DefOk P w K mg base CX0 5 "ringed" ["heap"] (sp_ringed K) := by
  obtain ⟨fd, F⟩ := d_ringed T
  refine ⟨fd, F.ok sc_ringed len1 (fun cdv A outer s H vs Q E hr h => ?_), (F.bindsN fun _ _ _ _ _ _ us hl => match us, hl with | [_], _ => rfl), F.kp, g_ringed T⟩
  refine ⟨_, PSs.nox (pss_cons (ps_expr (pe_fn (k_check_heap T) (hr.mono (by decide)) (by rfl) pass0 (pa_cons (pv 0) pa_nil)))
      (pss_cons (ps_if (pt_cmpR op_lt (pe_callB (zlen K) (by rfl) (n_len T) (by decide +kernel) (pa_cons (pv 0) pa_nil)) pe_int (nomark _)) (pss_one ps_never) pss_nil)
      (pss_cons (ps_for PassesOwn.never rfl (pi_list (pe_fn (k_commonest T) (hr.mono (by decide)) (by rfl) pass0 (pa_cons (pv 0) pa_nil))) (pg_name (i := 1) sc_ringed.nd rfl (Or.inl rfl))
        (pss_one (ps_if (pt_val (zmt K rfl (k_Much_bars_ring T) (hr.mono (by decide)) pass0 (zmk K rfl (m_Much T) (hr.mono (by decide)) (by rfl) pass0 (pa_cons (pv 1) pa_nil)) (pa_cons (pv 0) pa_nil))) (pss_one (ps_ret (zmk K rfl (m_Much T) (hr.mono (by decide)) (by rfl) pass0 (pa_cons (pv 1) pa_nil)))) pss_nil)))
      (pss_one (ps_ret (zmk K rfl (m_Ring T) (hr.mono (by decide)) (by rfl) pass0 (pa_cons (pe_fn (k_laid T) (hr.mono (by decide)) (by rfl) pass0 (pa_cons (pv 0) pa_nil)) pa_nil))))))), ?_⟩
  obtain ⟨_, rfl, a, L, rfl, hS, hg, h2, hT, q⟩ := h
  refine ⟨.ref a, rfl, _, rfl, a, L, rfl, hS, hg, fun H1 s1 => ?_⟩
  refine ⟨.ref a, rfl, a, LI L, rfl, .inl (s1.seq hS), _, _, rfl, rfl, _, rfl, ite2 (fun e => ?_) (fun _ => ?_)⟩
  · have := of_decide_eq_true e
    rw [LI, List.length_map] at this
    omega
  refine ⟨.ref a, rfl, _, rfl, a, L, rfl, s1.seq hS, hg, fun H2 p s2 np hp => ?_⟩
  have s12 := s1.trans s2
  refine ⟨p, rfl, ⟨_, SqL.of hp⟩, ?_⟩
  refine for_it (walk_list (xs := LI (cmn L))) (fun i σ H' => ∃ y1, σ = [some (.ref a), y1] ∧ Same H H' ∧ H' p = some (.lst (LI (cmn L))) ∧ ∀ k ∈ (cmn L).take i, 2 * (L.count k : Int) ≤ L.length)
    ⟨none, rfl, s12, hp, fun k hk => by cases hk⟩ (fun i σ H' _ ⟨_, _, _, h, _⟩ => SqL.of h) ?_ ?_
  · rintro i x σ _ H3 hi ⟨y1, rfl, s3, hp3, ok⟩ ⟨rfl, hx⟩
    rw [LI, List.length_map] at hi
    rw [li_get hi] at hx
    obtain rfl := Option.some.inj hx
    refine ⟨_, rfl, fun o dx no ndx ne => ?_⟩
    refine ⟨_, _, rfl, o, dx, _, rfl, rfl, upd_same, fun H4 sX ho => ⟨rfl, ?_⟩⟩
    have s4 : Same H3 H4 := fun b u e => sX b u (ne_of_none e no) (sm_put (same_upd ndx) no b u e)
    have s04 := s3.trans s4
    refine ⟨o, dx, _, rfl, ho, rfl, .ref a, rfl, _, _, rfl, o, dx, _, a, L, rfl, rfl, ho, s04.seq hS, _, rfl, ite2 (fun e => ?_) (fun e => ?_)⟩
    · rw [Bool.and_eq_true] at e
      have e' := of_decide_eq_true e.2
      refine ⟨_, rfl, fun o2 dx2 no2 ndx2 ne2 => ⟨_, _, rfl, o2, dx2, _, rfl, rfl, upd_same, fun H5 sX5 ho5 => ⟨rfl, ?_⟩⟩⟩
      have s5 : Same H4 H5 := fun b u e => sX5 b u (ne_of_none e no2) (sm_put (same_upd ndx2) no2 b u e)
      exact q H5 o2 dx2 (sm_of (s04.trans s5)) (Fr.of (s04.free no2)) (.inr ⟨_, ho5, by omega⟩)
    · have e' : ¬ 2 * (L.count (cmn L)[i] : Int) > L.length := fun z => e (by rw [decide_eq_true z, decide_eq_true (show (L.length : Int) > 1 by omega)]; rfl)
      refine ⟨_, rfl, s04, s4 _ _ hp3, fun k hk => ?_⟩
      rw [List.take_add_one, List.getElem?_eq_getElem hi, List.mem_append] at hk
      rcases hk with hk | hk
      · exact ok k hk
      · rw [List.mem_singleton.mp hk]
        omega
  · rintro σ H3 ⟨y1, rfl, s3, hp3, ok⟩
    rw [LI, List.length_map, List.take_length] at ok
    have hm : 2 * mostI L ≤ L.length := cmn_le2 ok
    refine ⟨.ref a, rfl, _, rfl, a, L, rfl, s3.seq hS, hg, hT.ext s3, fun H4 f s4 ff hf => ?_⟩
    intro o dx no ndx ne
    refine ⟨_, _, rfl, o, dx, f, _, rfl, rfl, upd_same, SqL.of (sm_put (same_upd ndx) no _ _ hf), fun H5 l sX nl ho hl => ⟨rfl, ?_⟩⟩
    have s5 : Same H4 H5 := fun b u e => sX b u (ne_of_none e no) (sm_put (same_upd ndx) no b u e)
    have s04 : Sm K H H4 := (sm_of s3).trans s4
    have nl4 : H4 l = none := (sm_put (same_upd ndx) no).free nl
    exact q H5 o dx (s04.trans (sm_of s5)) (s04.fr (Fr.of no)) (.inl ⟨l, s04.fr (Fr.of nl4), ho, hl, hm⟩)
def sp__law_rows_right (K : PySem.W.Frag) : Sp := sp2 fun x y H Q _ => ∃ a L c, x = .ref a ∧ SqL K H a (LI L) ∧ Good L ∧ L.length ≤ 63 ∧ TabK K H ∧ y = .int c ∧ ∀ H', Sm K H H' → Q (.bl true) H'
theorem k__law_rows_right (T : Tp K mg base) : DefOk P w K mg base CX0 6 "_law_rows_right" ["_law_heap_here", "_law_cell"] (sp__law_rows_right K) := by
  obtain ⟨fd, F⟩ := d__law_rows_right T
  refine ⟨fd, F.ok sc__law_rows_right len2 (fun cdv A outer s H vs Q E hr h => ?_), (F.bindsN fun _ _ _ _ _ _ us hl => match us, hl with | [_, _], _ => rfl), F.kp, g__law_rows_right T⟩
  refine ⟨_, PSs.nox (pss_cons (ps_set (i := 2) sc__law_rows_right.nd rfl (Or.inl rfl) (pe_fn (k_unlike T) (hr.mono (by decide)) (by rfl) pass0 (pa_cons (pv 0) pa_nil)))
      (Evl.pss_cut (ps_set (i := 3) sc__law_rows_right.nd rfl (Or.inl rfl) (pe_fn (k__law_bent T) (hr.mono (by decide)) (by rfl) pass0 (pa_cons (pe_ifExp (pt_val (pe_callB (zisi K) (by rfl) (n_isinstance T) (by decide +kernel) (pa_cons (pv 2) (pa_cons (pe_glob (v := .ref (He.ga K "Row")) (by rfl) (g_Row T) rfl) pa_nil)))) (zfld K (pv 2) (by rfl)) (pe_callTy (zlist K) (by rfl) (n_list T) (by decide +kernel) (pa_cons (pv 0) pa_nil))) (pa_cons (pv 1) pa_nil))))
      (pss_cons (ps_set (i := 4) sc__law_rows_right.nd rfl (Or.inl rfl) (pe_callTy (zlist K) (by rfl) (n_list T) (by decide +kernel) (pa_cons (pv 3) pa_nil)))
      (pss_cons (ps_par (by rfl) sc__law_rows_right.nd (i := 5) (j := 6) rfl rfl (by decide) rfl rfl (pa_cons (zmk K rfl (m_Row T) (hr.mono (by decide)) (by rfl) pass0 (pa_cons (pv 4) pa_nil)) (pa_cons (zmk K rfl (m_Ring T) (hr.mono (by decide)) (by rfl) pass0 (pa_cons (pv 4) pa_nil)) pa_nil)) (by rfl))
      (pss_cons (ps_expr (pe_bm PySem.F.plainAttrs_list PySem.F.slot_list_append PySem.F.type_list_append mt_append (pv 4) (pa_cons pe_int pa_nil)))
      (pss_cons (ps_if (PW.pt (pw_or (pt_cmpR (zneD K hr.units) (zfld K (pv 5) (by rfl)) (pv 3) (nomark _)) (pw_or1 (pt_cmpR (zneD K hr.units) (zfld K (pv 6) (by rfl)) (pv 3) (nomark _))))) (pss_one (ps_ret pe_bl)) pss_nil)
      (Evl.pss_cut (ps_set (i := 7) sc__law_rows_right.nd rfl (Or.inl rfl) (pe_and (pe_cmpR (zeqD K hr.units) (pe_callB (zsorted K) (by rfl) (n_sorted T) (by decide +kernel) (pa_cons (pv 3) pa_nil)) (pe_callB (zsorted K) (by rfl) (n_sorted T) (by decide +kernel) (pa_cons (pv 0) pa_nil)) (nomark _)) (pe_one (pe_fn (k__law_unlike T) (hr.mono (by decide)) (by rfl) pass0 (pa_cons (pv 3) pa_nil)))))
      (pss_cons (ps_if (pt_not (pt_val (pe_fn (k__law_says T) (hr.mono (by decide)) (by rfl) pass0 (pa_cons (zmt K rfl (k_Row_shows T) (hr.mono (by decide)) pass0 (pv 5) (pa_cons (pv 0) pa_nil)) (pa_cons (pv 7) pa_nil))))) (pss_one (ps_ret pe_bl)) pss_nil)
      (Evl.pss_cut (ps_set (i := 7) sc__law_rows_right.nd rfl (Or.inl rfl) (pe_and (pv 7) (pe_and (pe_cmpR op_gt (pe_callB (zlen K) (by rfl) (n_len T) (by decide +kernel) (pa_cons (pv 3) pa_nil)) pe_int (nomark _)) (pe_one (pe_cmpR op_ne (pe_ix (zixL K) (pv 3) pe_int (fun _ _ => rfl)) (pe_ix (zixL K) (pv 3) (pe_un un_neg pe_int) (fun _ _ => rfl)) (nomark _))))))
      (pss_cons (ps_if (pt_not (pt_val (pe_fn (k__law_says T) (hr.mono (by decide)) (by rfl) pass0 (pa_cons (zmt K rfl (k_Ring_shows T) (hr.mono (by decide)) pass0 (pv 6) (pa_cons (pv 0) pa_nil)) (pa_cons (pv 7) pa_nil))))) (pss_one (ps_ret pe_bl)) pss_nil)
      (Evl.pss_cut (ps_if (PW.pt (pw_and (pt_cmpR op_gt (pe_callB (zlen K) (by rfl) (n_len T) (by decide +kernel) (pa_cons (pv 0) pa_nil)) pe_int (nomark _)) (pw_and1 (pt_val (pe_callB (zisi K) (by rfl) (n_isinstance T) (by decide +kernel) (pa_cons (pe_fn (k_ringed T) (hr.mono (by decide)) (by rfl) pass0 (pa_cons (pv 0) pa_nil)) (pa_cons (pe_glob (v := .ref (He.ga K "Ring")) (by rfl) (g_Ring T) rfl) pa_nil))))))) (pss_cons (ps_set (i := 3) sc__law_rows_right.nd rfl (Or.inl rfl) (pe_fn (k__law_bent T) (hr.mono (by decide)) (by rfl) pass0 (pa_cons (zfld K (pe_fn (k_ringed T) (hr.mono (by decide)) (by rfl) pass0 (pa_cons (pv 0) pa_nil)) (by rfl)) (pa_cons (pe_op op_fdiv (pv 1) pe_int) pa_nil))))
      (Evl.pss_cut (ps_set (i := 7) sc__law_rows_right.nd rfl (Or.inl rfl) (pe_and (pe_cmpR (zeqD K hr.units) (pe_callB (zsorted K) (by rfl) (n_sorted T) (by decide +kernel) (pa_cons (pv 3) pa_nil)) (pe_callB (zsorted K) (by rfl) (n_sorted T) (by decide +kernel) (pa_cons (pv 0) pa_nil)) (nomark _)) (pe_and (pe_cmpR op_gt (pe_callB (zlen K) (by rfl) (n_len T) (by decide +kernel) (pa_cons (pv 3) pa_nil)) pe_int (nomark _)) (pe_one (pe_fn (k__law_unlike T) (hr.mono (by decide)) (by rfl) pass0 (pa_cons (pe_op op_cat (pv 3) (pe_slice (zslL K) (pv 3) po_none (po_some pe_int))) pa_nil))))))
      (pss_one (ps_if (pt_not (pt_val (pe_fn (k__law_says T) (hr.mono (by decide)) (by rfl) pass0 (pa_cons (zmt K rfl (k_Ring_shows T) (hr.mono (by decide)) pass0 (zmk K rfl (m_Ring T) (hr.mono (by decide)) (by rfl) pass0 (pa_cons (pv 3) pa_nil)) (pa_cons (pv 0) pa_nil)) (pa_cons (pv 7) pa_nil))))) (pss_one (ps_ret pe_bl)) pss_nil)))) pss_nil)
      (pss_cons (ps_for PassesOwn.never rfl (pi_list (pe_op op_cat (pe_lst (pa_cons pe_int (pa_cons pe_int (pa_cons pe_int (pa_cons (pe_un un_neg pe_int) pa_nil))))) (pe_slice (zslL K) (pv 0) po_none (po_some pe_int)))) (pg_name (i := 8) sc__law_rows_right.nd rfl (Or.inl rfl))
        (pss_cons (ps_set (i := 9) sc__law_rows_right.nd rfl (Or.inl rfl) (pe_op op_sub (pe_op op_mul pe_int (pe_bm PySem.F.plainAttrs_list PySem.F.slot_list_count PySem.F.type_list_count mt_lcount (pv 0) (pa_cons (pv 8) pa_nil))) (pe_callB (zlen K) (by rfl) (n_len T) (by decide +kernel) (pa_cons (pv 0) pa_nil))))
      (pss_cons (ps_if (PW.pt (pw_or (pt_not (pt_val (pe_fn (k__law_says T) (hr.mono (by decide)) (by rfl) pass0 (pa_cons (zmt K rfl (k_Much_shows T) (hr.mono (by decide)) pass0 (zmk K rfl (m_Much T) (hr.mono (by decide)) (by rfl) pass0 (pa_cons (pv 8) pa_nil)) (pa_cons (pv 0) pa_nil)) (pa_cons (pe_cmpR op_gt (pv 9) pe_int (nomark _)) pa_nil))))) (pw_or1 (pt_cmpR op_ne (zfld K (zmk K rfl (m_Much T) (hr.mono (by decide)) (by rfl) pass0 (pa_cons (pv 8) pa_nil)) (by rfl)) (pv 8) (nomark _))))) (pss_one (ps_ret pe_bl)) pss_nil)
      (pss_one (ps_if (pt_not (pt_val (pe_fn (k__law_says T) (hr.mono (by decide)) (by rfl) pass0 (pa_cons (zmt K rfl (k_Much_bars_ring T) (hr.mono (by decide)) pass0 (zmk K rfl (m_Much T) (hr.mono (by decide)) (by rfl) pass0 (pa_cons (pv 8) pa_nil)) (pa_cons (pv 0) pa_nil)) (pa_cons (pe_and (pe_cmpR op_gt (pv 9) pe_int (nomark _)) (pe_one (pe_cmpR op_gt (pe_callB (zlen K) (by rfl) (n_len T) (by decide +kernel) (pa_cons (pv 0) pa_nil)) pe_int (nomark _)))) pa_nil))))) (pss_one (ps_ret pe_bl)) pss_nil)))))
      (pss_one (ps_ret pe_bl)))))))))))))), ?_⟩
  obtain ⟨_, _, rfl, a, L, c, rfl, hS, hg, zL, hT, rfl, q⟩ := h
  refine ⟨.ref a, rfl, _, rfl, a, L, rfl, hS, hg, hT, fun H1 o dx s1 fo ok => ?_⟩
  refine ⟨fun σ' H' => ∃ l F, σ' = [some (.ref a), some (.int c), some (.ref o), some (.ref l), none, none, none, none, none, none] ∧ Sm K H H' ∧ H' l = some (.lst (LI F)) ∧ F.length ≤ 64, ?_, ?_⟩
  · rcases ok with ⟨l1, fl1, ho, hl1, hm⟩ | ⟨k, ho, hk⟩
    · refine ⟨.ref o, rfl, .ref o, .ref (He.ga K "Row"), _, .ref (He.ga K "Row"), true, rfl, .own _, ty_ins ho (cls_Row T) (ti_Row T), kt_Row_Row T, true, rfl, iteT ?_⟩
      refine ⟨.ref o, rfl, o, _, dx, _, .ref l1, rfl, ho, cls_Row T, na_Row_kinds T, rfl, _, rfl, _, _, rfl, l1, lay L, c, rfl, SqL.of hl1, by rw [lay_len]; omega, rfl, fun H2 l F s2 nl hl zF => ?_⟩
      rw [lay_len] at zF
      exact ⟨l, F, rfl, s1.trans (sm_of s2), hl, by omega⟩
    · refine ⟨.ref o, rfl, .ref o, .ref (He.ga K "Row"), _, .ref (He.ga K "Row"), false, rfl, .own _, ty_ins ho (cls_Much T) (ti_Much T), kt_Much_Row T, false, rfl, iteF ?_⟩
      refine ⟨.ref a, rfl, a, LI L, rfl, .inl (s1.seq hS), fun v nv => ?_⟩
      refine ⟨_, rfl, _, _, rfl, v, L, c, rfl, SqL.of upd_same, by omega, rfl, fun H2 l F s2 nl hl zF => ?_⟩
      exact ⟨l, F, rfl, (sm_new s1 nv).trans (sm_of s2), hl, by omega⟩
  clear s1 fo ok
  rintro σ' H1 ⟨l, F, rfl, s1, hl, zF⟩
  -- answers by hand, of a list that is changed behind
  refine ⟨.ref l, rfl, l, LI F, rfl, .inl (SqL.of hl), fun h nh => ?_⟩
  have s2 := sm_new (o := .lst (LI F)) s1 nh
  have fh := s1.fr (Fr.of nh)
  have hl2 := same_upd (o := .lst (LI F)) nh _ _ hl
  have hh2 := upd_same (H := H1) (a := h) (o := .lst (LI F))
  have lh : l ≠ h := ne_of_none hl nh
  generalize upd H1 h (.lst (LI F)) = H2 at s2 hl2 hh2
  refine ⟨_, rfl, fun o1 dx1 no1 ndx1 ne1 => ?_⟩
  have t1 : Same H2 (upd (upd H2 dx1 (.own o1)) o1 (.ins (He.ga K "Row") dx1 [])) := sm_put (same_upd ndx1) no1
  refine ⟨_, _, rfl, o1, dx1, h, _, rfl, rfl, upd_same, SqL.of (t1 _ _ hh2), fun H3 l1 sX1 nl1 ho1 hl1 => ⟨rfl, ?_⟩⟩
  have s23 : Same H2 H3 := fun b u e => sX1 b u (ne_of_none e no1) (t1 b u e)
  have nl1' : H2 l1 = none := t1.free nl1
  refine ⟨_, rfl, fun o2 dx2 no2 ndx2 ne2 => ?_⟩
  have t2 : Same H3 (upd (upd H3 dx2 (.own o2)) o2 (.ins (He.ga K "Ring") dx2 [])) := sm_put (same_upd ndx2) no2
  refine ⟨_, _, rfl, o2, dx2, h, _, rfl, rfl, upd_same, SqL.of (t2 _ _ (s23 _ _ hh2)), fun H4 l2 sX2 nl2 ho2 hl2' => ⟨rfl, _, _, rfl, ?_⟩⟩
  have s34 : Same H3 H4 := fun b u e => sX2 b u (ne_of_none e no2) (t2 b u e)
  have s24 := s23.trans s34
  have nl2' : H3 l2 = none := t2.free nl2
  have hh4 := s24 _ _ hh2
  refine ⟨.ref h, rfl, .inl ⟨rfl, _, SqL.of hh4⟩, h, LI F, .int 0, rfl, rfl, hh4, sz_lt (by rw [LI, List.length_map]; omega), ?_⟩
  have n1 : l1 ≠ h := fun z => by rw [z, hh2] at nl1'; cases nl1'
  have n2 : l2 ≠ h := fun z => by have := s23 _ _ hh2; rw [z, this] at nl2'; cases nl2'
  have n3 : o1 ≠ h := fun z => by rw [z, hh2] at no1; cases no1
  have n4 : o2 ≠ h := fun z => by have := s23 _ _ hh2; rw [z, this] at no2; cases no2
  have s5 : Sm K H (upd H4 h (.lst (LI F ++ [.int 0]))) := sm_mut (s2.trans (sm_of s24)) fh hh4
  have hl5 : upd H4 h (.lst (LI F ++ [.int 0])) l = some (.lst (LI F)) := (upd_ne lh).trans (s24 _ _ hl2)
  have ho1' : upd H4 h (.lst (LI F ++ [.int 0])) o1 = _ := (upd_ne n3).trans (s34 _ _ ho1)
  have hl1' : upd H4 h (.lst (LI F ++ [.int 0])) l1 = some (.lst (LI F)) := (upd_ne n1).trans (s34 _ _ hl1)
  have ho2' : upd H4 h (.lst (LI F ++ [.int 0])) o2 = _ := (upd_ne n4).trans ho2
  have hl2'' : upd H4 h (.lst (LI F ++ [.int 0])) l2 = some (.lst (LI F)) := (upd_ne n2).trans hl2'
  generalize upd H4 h (.lst (LI F ++ [.int 0])) = H5 at s5 hl5 ho1' hl1' ho2' hl2''
  clear s1 s2 s23 s34 s24 hh4 hh2 hl2 sX1 sX2 t1 t2 nl1 nl2 nl1' nl2' ho1 ho2 hl1 hl2' no1 no2 ndx1 ndx2 ne1 ne2 nh fh lh n1 n2 n3 n4 hl
  refine ⟨.ref o1, rfl, o1, _, dx1, _, .ref l1, rfl, ho1', cls_Row T, na_Row_kinds T, rfl, .ref l, rfl, dI F, dI F, dp_li (SqL.of hl1'), dp_li (SqL.of hl5), shaped_dI _, shaped_dI _, false, by rw [eqv_dI, decide_eq_true rfl]; rfl, iteF ?_⟩
  refine ⟨.ref o2, rfl, o2, _, dx2, _, .ref l2, rfl, ho2', cls_Ring T, na_Ring_kinds T, rfl, .ref l, rfl, dI F, dI F, dp_li (SqL.of hl2''), dp_li (SqL.of hl5), shaped_dI _, shaped_dI _, false, by rw [eqv_dI, decide_eq_true rfl]; rfl, iteF ?_⟩
  -- what is due of a row
  refine ⟨fun σ' H' => σ' = [some (.ref a), some (.int c), some (.ref o), some (.ref l), some (.ref h), some (.ref o1), some (.ref o2), some (.bl (rowP F L)), none, none] ∧ Same H5 H', ?_, ?_⟩
  · refine ⟨.ref l, rfl, l, F, rfl, SqL.of hl5, fun ns p pr so np => ?_⟩
    have e1 := sorted_eq pr so
    subst e1
    have g1 := same_upd (o := .lst (LI (srt F))) np
    refine ⟨.ref a, rfl, a, L, rfl, (s5.trans (sm_of g1)).seq hS, fun ns p2 pr2 so2 np2 => ?_⟩
    have e2 := sorted_eq pr2 so2
    subst e2
    have g2 := g1.trans (same_upd (o := .lst (LI (srt L))) np2)
    refine ⟨dI _, dI _, dp_li (SqL.of (same_upd np2 _ _ upd_same)), dp_li (SqL.of upd_same), shaped_dI _, shaped_dI _, ?_⟩
    rw [eqv_dI]
    refine ⟨_, rfl, ?_⟩
    by_cases e : srt F = srt L
    · rw [decide_eq_true e]
      refine iteT ?_
      refine ⟨.ref l, rfl, _, rfl, l, F, rfl, g2 _ _ hl5, by omega, fun H6 s6 => ⟨?_, g2.trans s6⟩⟩
      have hr : rowP F L = adjB F := by
        unfold rowP
        rw [decide_eq_true e, Bool.true_and]
      rw [hr]
      rfl
    · rw [decide_eq_false e]
      refine iteF ?_
      have hr : rowP F L = false := by
        unfold rowP
        rw [decide_eq_false e, Bool.false_and]
      rw [hr]
      exact ⟨rfl, g2⟩
  rintro σ' H6 ⟨rfl, s56⟩
  have s6 : Sm K H H6 := s5.trans (sm_of s56)
  refine ⟨.ref o1, rfl, o1, dx1, _, rfl, s56 _ _ ho1', rfl, .ref a, rfl, _, _, rfl, o1, dx1, l1, F, a, L, rfl, rfl, s56 _ _ ho1', s56 _ _ hl1', s6.seq hS, hg.len, by omega, fun H7 s7 => ?_⟩
  refine ⟨_, rfl, _, _, rfl, _, rfl, rfl, true, rfl, iteF ?_⟩
  have s57 := s56.trans s7
  -- of a ring
  refine ⟨fun σ' H' => σ' = [some (.ref a), some (.int c), some (.ref o), some (.ref l), some (.ref h), some (.ref o1), some (.ref o2), some (.bl (ringP F L)), none, none] ∧ H' = H7, ?_, ?_⟩
  · rw [ringP_row F L]
    refine ⟨_, rfl, rowP F L, rfl, ?_⟩
    cases rowP F L with
    | false => exact iteF ⟨rfl, rfl⟩
    | true =>
      refine iteT ⟨.ref l, rfl, l, LI F, rfl, .inl (SqL.of (s57 _ _ hl5)), _, _, rfl, rfl, _, rfl, ?_⟩
      rw [show ((LI F).length : Int) = (F.length : Int) by rw [LI, List.length_map]]
      by_cases e : (F.length : Int) > 1
      · rw [decide_eq_true e]
        refine iteT ⟨.ref l, rfl, l, LI F, 0, .int (F.getD 0 0), rfl, rfl, SqL.of (s57 _ _ hl5), at_of (j := 0) rfl (li_getD (by omega)), .ref l, rfl, _, rfl, l, LI F, -1, .int (F.getD (F.length - 1) 0), rfl, rfl, SqL.of (s57 _ _ hl5), at_back (j := F.length - 1) (by omega) (by rw [LI, List.length_map]; omega) (li_getD (by omega)), rfl, ?_⟩
        refine ⟨?_, rfl⟩
        have := dec_ne (F.getD 0 0) (F.getD (F.length - 1) 0)
        rw [Bool.true_and, Bool.true_and]
        rw [this]
        rfl
      · rw [decide_eq_false e]
        exact iteF ⟨rfl, rfl⟩
  rintro σ' H7' ⟨rfl, eH⟩
  subst eH
  refine ⟨.ref o2, rfl, o2, dx2, _, rfl, s57 _ _ ho2', rfl, .ref a, rfl, _, _, rfl, o2, dx2, l2, F, a, L, rfl, rfl, s57 _ _ ho2', s57 _ _ hl2'', (s5.trans (sm_of s57)).seq hS, hg.len, by omega, fun H8 s8 => ?_⟩
  refine ⟨_, rfl, _, _, rfl, _, rfl, rfl, true, rfl, iteF ?_⟩
  have s08 : Sm K H H8 := s5.trans (sm_of (s57.trans s8))
  clear s56 s6 s57 s7 s8 ho1' hl1' ho2' hl2'' hl5 s5
  -- a ring bent
  refine ⟨fun σ' H' => ∃ y3 y7, σ' = [some (.ref a), some (.int c), some (.ref o), y3, some (.ref h), some (.ref o1), some (.ref o2), y7, none, none] ∧ Sm K H H', ?_, ?_⟩
  · refine ⟨.ref a, rfl, a, LI L, rfl, .inl (s08.seq hS), _, _, rfl, rfl, _, rfl, ite2 (fun e => ?_) (fun _ => ?_)⟩
    case refine_2 => exact iteF ⟨_, _, rfl, s08⟩
    have h2 : 2 ≤ L.length := by
      have := of_decide_eq_true e
      rw [LI, List.length_map] at this
      omega
    refine ⟨.ref a, rfl, _, rfl, a, L, rfl, s08.seq hS, hg, h2, s08.tabs hT, fun H9 o3 dx3 s9 fo3 ok3 => ?_⟩
    have s09 := s08.trans s9
    rcases ok3 with ⟨l3, _, ho3, hl3, hm3⟩ | ⟨k3, ho3, hk3⟩
    case inr =>
      refine ⟨.ref o3, .ref (He.ga K "Ring"), _, .ref (He.ga K "Ring"), false, rfl, .own _, ty_ins ho3 (cls_Much T) (ti_Much T), kt_Much_Ring T, false, rfl, ?_⟩
      exact iteF ⟨_, _, rfl, s09⟩
    refine ⟨.ref o3, .ref (He.ga K "Ring"), _, .ref (He.ga K "Ring"), true, rfl, .own _, ty_ins ho3 (cls_Ring T) (ti_Ring T), kt_Ring_Ring T, true, rfl, ?_⟩
    refine iteT ?_
    refine ⟨.ref a, rfl, _, rfl, a, L, rfl, s09.seq hS, hg, h2, s09.tabs hT, fun H10 o4 dx4 s10 fo4 ok4 => ?_⟩
    have s010 := s09.trans s10
    rcases ok4 with ⟨l4, _, ho4, hl4, hm4⟩ | ⟨k4, ho4, hk4⟩
    case inr =>
      have := cnt_le_most L k4
      omega
    refine ⟨o4, _, dx4, _, .ref l4, rfl, ho4, cls_Ring T, na_Ring_kinds T, rfl, _, rfl, _, _, rfl, rfl, ⟨by decide, by decide⟩, _, _, rfl, l4, lay L, _, rfl, SqL.of hl4, by rw [lay_len]; omega, rfl, fun H11 l5 G s11 nl5 hl5 zG => ?_⟩
    rw [lay_len] at zG
    have s011 := s010.trans (sm_of s11)
    refine ⟨fun σ' H' => σ' = [some (.ref a), some (.int c), some (.ref o), some (.ref l5), some (.ref h), some (.ref o1), some (.ref o2), some (.bl (ringP G L)), none, none] ∧ Same H11 H', ?_, ?_⟩
    · refine ⟨.ref l5, rfl, l5, G, rfl, SqL.of hl5, fun ns p pr so np => ?_⟩
      have e1 := sorted_eq pr so
      subst e1
      have g1 := same_upd (o := .lst (LI (srt G))) np
      refine ⟨.ref a, rfl, a, L, rfl, (s011.trans (sm_of g1)).seq hS, fun ns p2 pr2 so2 np2 => ?_⟩
      have e2 := sorted_eq pr2 so2
      subst e2
      have g2 := g1.trans (same_upd (o := .lst (LI (srt L))) np2)
      refine ⟨dI _, dI _, dp_li (SqL.of (same_upd np2 _ _ upd_same)), dp_li (SqL.of upd_same), shaped_dI _, shaped_dI _, ?_⟩
      rw [eqv_dI, ringP_cyc G L]
      refine ⟨_, rfl, ?_⟩
      by_cases e : srt G = srt L
      · rw [decide_eq_true e]
        refine iteT ⟨.ref l5, rfl, l5, LI G, rfl, .inl (SqL.of (g2 _ _ hl5)), _, _, rfl, rfl, _, rfl, ?_⟩
        rw [show ((LI G).length : Int) = (G.length : Int) by rw [LI, List.length_map]]
        by_cases e1 : (G.length : Int) > 1
        · rw [decide_eq_true e1]
          refine iteT ⟨.ref l5, rfl, .ref l5, rfl, _, rfl, l5, LI G, rfl, SqL.of (g2 _ _ hl5), fun u nu => ?_⟩
          have ec : cutV (LI G) none (some 1) = LI (G.take 1) := by rw [show (1 : Int) = ((1 : Nat) : Int) from rfl, cut_to, li_take]
          rw [ec]
          have g3 := g2.trans (same_upd (o := .lst (LI (G.take 1))) nu)
          have zt : (G.take 1).length ≤ 1 := by rw [List.length_take]; omega
          refine ⟨l5, u, LI G, LI (G.take 1), rfl, rfl, g3 _ _ hl5, upd_same, sz_le (by rw [LI, LI, List.length_map, List.length_map]; omega), fun v nv => ?_⟩
          have ea : LI G ++ LI (G.take 1) = LI (G ++ G.take 1) := (List.map_append ..).symm
          rw [ea]
          have g4 := g3.trans (same_upd (o := .lst (LI (G ++ G.take 1))) nv)
          refine ⟨_, rfl, v, G ++ G.take 1, rfl, upd_same, by rw [List.length_append]; omega, fun H12 s12 => ⟨rfl, g4.trans s12⟩⟩
        · rw [decide_eq_false e1]
          exact iteF ⟨rfl, g2⟩
      · rw [decide_eq_false e]
        exact iteF ⟨rfl, g2⟩
    rintro σ' H12 ⟨rfl, s12⟩
    have s012 := s011.trans (sm_of s12)
    refine ⟨_, rfl, fun o6 dx6 no6 ndx6 ne6 => ?_⟩
    have t6 : Same H12 (upd (upd H12 dx6 (.own o6)) o6 (.ins (He.ga K "Ring") dx6 [])) := sm_put (same_upd ndx6) no6
    refine ⟨_, _, rfl, o6, dx6, l5, _, rfl, rfl, upd_same, SqL.of (t6 _ _ (s12 _ _ hl5)), fun H13 l6 sX6 nl6 ho6 hl6 => ⟨rfl, ?_⟩⟩
    have s1213 : Same H12 H13 := fun b u e => sX6 b u (ne_of_none e no6) (t6 b u e)
    have s013 := s012.trans (sm_of s1213)
    refine ⟨o6, dx6, _, rfl, ho6, rfl, .ref a, rfl, _, _, rfl, o6, dx6, l6, G, a, L, rfl, rfl, ho6, hl6, s013.seq hS, hg.len, by omega, fun H14 s14 => ?_⟩
    refine ⟨_, rfl, _, _, rfl, _, rfl, rfl, true, rfl, iteF ?_⟩
    exact ⟨_, _, rfl, s013.trans (sm_of s14)⟩
  clear s08
  rintro σ' H1' ⟨y3, y7, rfl, s1⟩
  -- kinds
  refine ⟨_, rfl, by show 4 ≤ sizeLine; decide, fun u nu => ?_⟩
  have s2 := sm_new (o := .lst [.int 5, .int 900, .int 7, .int (-1)]) s1 nu
  refine ⟨.ref a, rfl, _, rfl, a, LI L, rfl, s2.seq hS, fun v nv => ?_⟩
  have ec : cutV (LI L) none (some 2) = LI (L.take 2) := by rw [show (2 : Int) = ((2 : Nat) : Int) from rfl, cut_to, li_take]
  rw [ec]
  have s3 := sm_new (o := .lst (LI (L.take 2))) s2 nv
  have hu3 := same_upd (o := .lst (LI (L.take 2))) nv _ _ (upd_same (H := H1') (a := u) (o := .lst [.int 5, .int 900, .int 7, .int (-1)]))
  have zt : (L.take 2).length ≤ 2 := by rw [List.length_take]; omega
  refine ⟨u, v, LI [5, 900, 7, -1], LI (L.take 2), rfl, rfl, hu3, upd_same, sz_le (by rw [LI, LI, List.length_map, List.length_map]; show 4 + _ ≤ _; omega), fun w nw => ?_⟩
  have ea : LI [5, 900, 7, -1] ++ LI (L.take 2) = LI ([5, 900, 7, -1] ++ L.take 2) := (List.map_append ..).symm
  rw [ea]
  generalize ([5, 900, 7, -1] : List Int) ++ L.take 2 = ks at nw ⊢
  have s4 := sm_new (o := .lst (LI ks)) s3 nw
  have hw4 := upd_same (H := upd (upd H1' u (.lst [.int 5, .int 900, .int 7, .int (-1)])) v (.lst (LI (L.take 2)))) (a := w) (o := .lst (LI ks))
  generalize upd (upd (upd H1' u (.lst [.int 5, .int 900, .int 7, .int (-1)])) v (.lst (LI (L.take 2)))) w (.lst (LI ks)) = H4' at s4 hw4
  refine ⟨w, rfl, ⟨_, SqL.of hw4⟩, ?_⟩
  refine for_it (walk_list (xs := LI ks)) (fun i σ H' => ∃ y8 y9, σ = [some (.ref a), some (.int c), some (.ref o), y3, some (.ref h), some (.ref o1), some (.ref o2), y7, y8, y9] ∧ Same H4' H')
    ⟨_, _, rfl, Same.refl _⟩ (fun i σ H' _ ⟨_, _, _, s⟩ => SqL.of (s _ _ hw4)) ?_ ?_
  · rintro i x σ _ H5 hi ⟨y8, y9, rfl, s5⟩ ⟨rfl, hx⟩
    rw [LI, List.length_map] at hi
    rw [li_get hi] at hx
    obtain rfl := Option.some.inj hx
    generalize ks[i] = k
    have hm5 := (s4.trans (sm_of s5)).seq hS
    refine ⟨.ref a, rfl, .inl ⟨rfl, _, hm5⟩, _, rfl, a, L, k, rfl, rfl, hm5, _, _, rfl, rfl, .inl ⟨by decide, by decide⟩, .ref a, rfl, a, _, rfl, .inl hm5, _, _, rfl, rfl, ?_⟩
    refine ⟨_, rfl, fun p dp np ndp nep => ?_⟩
    have t5 : Same H5 (upd (upd H5 dp (.own p)) p (.ins (He.ga K "Much") dp [])) := sm_put (same_upd ndp) np
    refine ⟨_, _, rfl, p, dp, _, rfl, rfl, upd_same, fun H6 sX hp6 => ⟨rfl, ?_⟩⟩
    have s56 : Same H5 H6 := fun b u e => sX b u (ne_of_none e np) (t5 b u e)
    have hm6 := s56.seq hm5
    have el : ((LI L).length : Int) = (L.length : Int) := by rw [LI, List.length_map]
    refine ⟨p, dp, _, rfl, hp6, rfl, .ref a, rfl, _, _, rfl, p, dp, k, a, L, rfl, rfl, hp6, hm6, _, rfl, _, _, rfl, rfl, _, _, rfl, _, rfl, congrArg V.bl (decide_eq_decide.mpr ?_), true, rfl, iteF ?_⟩
    · show 2 * (L.count k : Int) - ((LI L).length : Int) > 1 ↔ _
      omega
    refine ⟨_, rfl, fun p2 dp2 np2 ndp2 nep2 => ?_⟩
    have t6 : Same H6 (upd (upd H6 dp2 (.own p2)) p2 (.ins (He.ga K "Much") dp2 [])) := sm_put (same_upd ndp2) np2
    refine ⟨_, _, rfl, p2, dp2, _, rfl, rfl, upd_same, fun H7 sX2 hp7 => ⟨rfl, ?_⟩⟩
    have s67 : Same H6 H7 := fun b u e => sX2 b u (ne_of_none e np2) (t6 b u e)
    refine ⟨p2, _, dp2, _, .int k, rfl, hp7, cls_Much T, na_Much_kind T, rfl, _, rfl, rfl, false, by rw [decide_eq_true rfl]; rfl, iteF ?_⟩
    refine ⟨_, rfl, fun p3 dp3 np3 ndp3 nep3 => ?_⟩
    have t7 : Same H7 (upd (upd H7 dp3 (.own p3)) p3 (.ins (He.ga K "Much") dp3 [])) := sm_put (same_upd ndp3) np3
    refine ⟨_, _, rfl, p3, dp3, _, rfl, rfl, upd_same, fun H8 sX3 hp8 => ⟨rfl, ?_⟩⟩
    have s78 : Same H7 H8 := fun b u e => sX3 b u (ne_of_none e np3) (t7 b u e)
    have s58 := (s56.trans s67).trans s78
    have hm8 := s58.seq hm5
    refine ⟨p3, dp3, _, rfl, hp8, rfl, .ref a, rfl, _, _, rfl, p3, dp3, k, a, L, rfl, rfl, hp8, hm8, _, rfl, _, _, rfl, rfl, _, rfl, ?_⟩
    have end5 : Same H4' H8 := s5.trans s58
    by_cases e : 2 * (L.count k : Int) - ((LI L).length : Int) > 0
    · rw [decide_eq_true e]
      refine iteT ⟨.ref a, rfl, a, _, rfl, .inl hm8, _, _, rfl, rfl, _, _, rfl, _, rfl, congrArg V.bl ?_, true, rfl, iteF ⟨_, _, rfl, end5⟩⟩
      rw [decide_eq_true (show 2 * (L.count k : Int) > L.length by omega), Bool.and_true, el]
    · rw [decide_eq_false e]
      refine iteF ⟨_, _, rfl, _, rfl, congrArg V.bl ?_, true, rfl, iteF ⟨_, _, rfl, end5⟩⟩
      rw [decide_eq_false (show ¬ 2 * (L.count k : Int) > L.length by omega), Bool.and_false]
  · rintro σ H5 ⟨y8, y9, rfl, s5⟩
    exact q _ (s4.trans (sm_of s5))
def sp_dealt (K : PySem.W.Frag) : Sp := sp3 fun x y z H Q _ => ∃ a L m s, x = .ref a ∧ SqL K H a (LI L) ∧ L.length ≤ 100000 ∧ y = .int (m : Nat) ∧ z = .int (s : Nat) ∧ m ≤ 100000 ∧ s ≤ 100000 ∧ (m : Int) * s ≤ room L m ∧
  ∀ H' gl gs, Same H H' → H gl = none → (∀ g ∈ gs, H g = none) → gl ∉ gs → gs.Nodup → H' gl = some (.lst (gs.map V.ref)) → ObjsAt H' oL gs (deal (thg L m) m (m * s)) → Q (.ref gl) H'
theorem k_dealt (T : Tp K mg base) : DefOk P w K mg base CX0 2 "dealt" ["heap", "many", "size"] (sp_dealt K) := by
  obtain ⟨fd, F⟩ := d_dealt T
  refine ⟨fd, F.ok sc_dealt len3 (fun cdv A outer s H vs Q E hr h => ?_), (F.bindsN fun _ _ _ _ _ _ us hl => match us, hl with | [_, _, _], _ => rfl), F.kp, g_dealt T⟩
  refine ⟨_, PSs.nox (pss_cons (ps_set (i := 3) sc_dealt.nd rfl (Or.inl rfl) (pe_fn (k_counts_of T) (hr.mono (by decide)) (by rfl) pass0 (pa_cons (pv 0) pa_nil)))
      (pss_cons (ps_set (i := 4) sc_dealt.nd rfl (Or.inl rfl) (pe_lst pa_nil))
      (pss_cons (ps_for PassesOwn.never rfl (pi_keysN (pv 3)) (pg_name (i := 5) sc_dealt.nd rfl (Or.inr rfl))
        (pss_one (ps_expr (pe_bm PySem.F.plainAttrs_list PySem.F.slot_list_extend PySem.F.type_list_extend mt_extend (pv 4) (pa_cons (pe_lc (own := [("turn", 8)]) (g := gName 8) (tt := tYes) (by rfl) sc_dealt.nd (pi_range1 (by rfl) (n_range T) (pa_cons (pe_callB (call_min2 rfl) (by rfl) (n_min T) (by decide +kernel) (pa_cons (pe_dget (hu_of hr) (pv 3) (pv 5) (fun _ _ => rfl)) (pa_cons (pv 1) pa_nil))) pa_nil)) (blkOk_by (own := [("turn", 8)]) (N := N_dealt) (sc := defScope s_dealt) (by decide +kernel)) (fun _ _ _ _ _ => pg_name (i := 8) sc_dealt.nd rfl (Or.inl rfl)) (fun _ _ _ _ _ => pts_nil) (fun _ _ _ _ _ => (pv 5))) pa_nil)))))
      (pss_cons (ps_setLc (i := 6) (own := [("turn", 8)]) (g := gName 8) (tt := tYes) (by rfl) sc_dealt.nd rfl rfl (sw_true rfl rfl rfl (by decide +kernel)) (pi_range1 (by rfl) (n_range T) (pa_cons (pv 1) pa_nil)) (blkOk_by (own := [("turn", 8)]) (N := N_dealt) (sc := defScope s_dealt) (by decide +kernel)) (fun _ _ _ _ _ => pg_name (i := 8) sc_dealt.nd rfl (Or.inl rfl)) (fun _ _ _ _ _ => pts_nil) (fun _ _ _ _ _ => (pe_lst pa_nil)))
      (pss_cons (ps_for PassesOwn.never rfl (pi_range1 (by rfl) (n_range T) (pa_cons (pe_op op_mul (pv 1) (pv 2)) pa_nil)) (pg_name (i := 7) sc_dealt.nd rfl (Or.inl rfl))
        (pss_one (ps_expr (pe_bm PySem.F.plainAttrs_list PySem.F.slot_list_append PySem.F.type_list_append mt_append (pe_ix (zixL K) (pv 6) (pe_op op_mod (pv 7) (pv 1)) (fun _ _ => rfl)) (pa_cons (pe_ix (zixL K) (pv 4) (pv 7) (fun _ _ => rfl)) pa_nil)))))
      (pss_one (ps_ret (pv 6)))))))), ?_⟩
  obtain ⟨_, _, _, rfl, a, L, m, s', rfl, hS, hl, rfl, rfl, zm, zs, hroom, q⟩ := h
  have hlen := thg_len L (m := m) (by omega)
  have hrl := room_le_len L m
  have zc := cn_len L
  refine ⟨.ref a, rfl, _, rfl, a, L, rfl, hS, hl, fun H1 d s1 nd hd => ?_⟩
  refine ⟨Nat.zero_le _, fun t nt => ?_⟩
  have hd2 := same_upd (o := .lst []) nt _ _ hd
  have s2 : Same H (upd H1 t (.lst [])) := s1.trans (same_upd nt)
  have dt : d ≠ t := ne_of_none hd nt
  refine ⟨.ref d, rfl, d, dk (cn L), rfl, hd2, fun o => ⟨d, o, rfl, .inl ⟨_, upd_same, ?_⟩⟩⟩
  have fth : ∀ i, (((cn L).take i).flatMap fun p => List.replicate (mn p.2 m).toNat p.1).length ≤ (thg L m).length := fun i => by
    unfold thg
    conv => rhs; rw [← List.take_append_drop i (cn L)]
    rw [List.flatMap_append, List.length_append]
    omega
  refine for_it walk_keys (fun i σ H' => ∃ y5 y8, σ = [some (.ref a), some (.int (m : Nat)), some (.int (s' : Nat)), some (.ref d), some (.ref t), y5, none, none, y8] ∧ Same H H' ∧ H' d = some (.frz o (.dK (dk (cn L)))) ∧ H' t = some (.lst (LI (((cn L).take i).flatMap fun p => List.replicate (mn p.2 m).toNat p.1))))
    ⟨none, none, rfl, sm_put s2 nd, upd_same, by rw [upd_ne dt.symm, upd_same]; rfl⟩ (fun i σ H' _ ⟨_, _, _, _, h, _⟩ => h) ?_ ?_
  · rintro i x σ _ H3 hi ⟨y5, y8, rfl, s3, hd3, ht3⟩ ⟨rfl, k0, v0, hx, ex⟩
    rw [dk_len] at hi
    rw [dk_get hi] at hx
    obtain ⟨rfl, rfl⟩ := Prod.mk.inj (Option.some.inj hx)
    have ex : x = V.int (cn L)[i].1 := ex
    subst ex
    have hval : valV (dk (cn L)) (Sum.inl (cn L)[i].1) = some (.int (cn L)[i].2) := by
      rw [dk_val, lk_of_mem (cn_nodup L) (List.getElem_mem hi)]
      rfl
    have hpos := cn_nonneg (List.getElem_mem hi)
    have hmnn : 0 ≤ mn (cn L)[i].2 m := by unfold mn; split <;> omega
    have hmm : mn (cn L)[i].2 m ≤ m := by unfold mn; split <;> omega
    have hf1 := fth (i + 1)
    rw [List.take_add_one, List.getElem?_eq_getElem hi, List.flatMap_append, List.length_append] at hf1
    simp only [Option.toList, List.flatMap_cons, List.flatMap_nil, List.append_nil, List.length_replicate] at hf1
    refine ⟨.ref t, rfl, .inl ⟨rfl, _, SqL.of ht3⟩, ?_⟩
    refine ⟨.ref d, rfl, _, rfl, d, _, rfl, .inl ⟨_, Sum.inl (cn L)[i].1, .inr ⟨o, hd3⟩, rfl, hval.symm⟩, _, rfl, _, _, rfl, mn (cn L)[i].2 m, rfl, by omega, by omega, fun D hD => ?_⟩
    refine lc_pure (L := List.range (mn (cn L)[i].2 m).toNat) (fun _ => some (.int (cn L)[i].1)) (G := fun _ => True) (Y := fun i H x H' => H' = H ∧ x = .int (0 + (i : Nat))) ?_ hD (by rw [List.length_range]; omega) (fun _ _ _ _ => trivial) trivial ?_ (fun H5 s5 hr5 => ?_)
    · rw [List.length_range]
      exact walk_range
    · rintro j hj x H6 _ s6 _ ⟨rfl, hx⟩ Z Zn z1 z2
      exact ⟨rfl, _, rfl, z1 _ _ rfl (Same.refl _)⟩
    · rw [fm_map] at hr5
      have er : (List.range (mn (cn L)[i].2 m).toNat).map (fun _ => V.int (cn L)[i].1) = LI (List.replicate (mn (cn L)[i].2 m).toNat (cn L)[i].1) := by
        rw [LI, List.map_replicate]
        refine List.ext_getElem (by simp) fun k h1 h2 => by simp
      rw [er] at hr5
      have tD : t ≠ D := ne_of_none ht3 hD
      refine ⟨t, D, _, _, rfl, rfl, s5 _ _ ht3, hr5, ?_, ?_⟩
      · rw [LI, LI, List.length_map, List.length_map, List.length_replicate]
        exact sz_le (by omega)
      · refine ⟨_, _, rfl, sm_put (s3.trans s5) (s1.free nt), by rw [upd_ne dt]; exact s5 _ _ hd3, ?_⟩
        rw [upd_same, List.take_add_one, List.getElem?_eq_getElem hi]
        simp only [Option.toList, List.flatMap_append, List.flatMap_cons, List.flatMap_nil, List.append_nil]
        rw [LI, LI, LI, List.map_append]
  · rintro σ H3 ⟨y5, y8, rfl, s3, hd3, ht3⟩
    rw [dk_len, List.take_length] at ht3
    have ht3 : H3 t = some (.lst (LI (thg L m))) := ht3
    -- the groups, empty
    refine ⟨_, rfl, (m : Int), rfl, by omega, by omega, fun D hD => ?_⟩
    refine lc_fresh (L := List.range m) (fun _ => oL []) (G := fun _ => True) (Y := fun i H x H' => H' = H ∧ x = .int (0 + (i : Nat))) ?_ hD (by rw [List.length_range]; omega) (fun _ _ _ _ => trivial) trivial ?_ (fun H4 ts s4 nts fts Dts oa hDl => ?_)
    · rw [List.length_range, Int.toNat_natCast]
      exact walk_range
    · rintro i hi x H5 H6 s5 _ ⟨rfl, rfl⟩ Z Zn z1
      exact ⟨rfl, Nat.zero_le _, fun l nl => z1 l _ nl upd_same (same_upd nl)⟩
    have oa0 : ObjsAt H4 oL ts (deal (thg L m) m 0) := by
      have := ObjsAt.map (f := fun _ : Nat => ([] : List Int)) (o := oL) oa
      have e : (List.range m).map (fun _ => ([] : List Int)) = List.replicate m [] := List.ext_getElem (by simp) fun k h1 h2 => by simp
      rw [e] at this
      exact this
    have s04 := s3.trans s4
    have ht4 := s4 _ _ ht3
    have tts : t ∉ ts := fun z => by have := fts t z; rw [ht3] at this; cases this
    have tD : t ≠ D := ne_of_none ht3 hD
    have hms : ((m * s' : Nat) : Int) = (m : Int) * s' := Int.natCast_mul ..
    refine ⟨_, rfl, _, rfl, _, _, rfl, rfl, .inl ⟨by omega, by omega⟩, (m : Int) * s', rfl, by omega, by omega, ?_⟩
    rw [show ((m : Int) * s').toNat = m * s' by omega]
    refine for_range (n := m * s') (fun i σ H' => ∃ y5 y7 y8, σ = [some (.ref a), some (.int (m : Nat)), some (.int (s' : Nat)), some (.ref d), some (.ref t), y5, some (.ref D), y7, y8] ∧ Same H H' ∧ H' t = some (.lst (LI (thg L m))) ∧ H' D = some (.lst (ts.map V.ref)) ∧ ObjsAt H' oL ts (deal (thg L m) m i))
      ⟨_, _, _, rfl, s04, ht4, hDl, oa0⟩ ?_ ?_
    · rintro i σ H5 hi ⟨z5, z7, z8, rfl, s5, ht5, hD5, oa5⟩
      have hm0 : 0 < m := by
        rcases Nat.eq_zero_or_pos m with e | e
        · rw [e, Nat.zero_mul] at hi
          omega
        · exact e
      have hj : i % m < m := Nat.mod_lt _ hm0
      have hit : i < (thg L m).length := by omega
      obtain ⟨g, hg1, hg2⟩ := oa5.get (i := i % m) (by rw [deal_len]; exact hj)
      have egd : (deal (thg L m) m i).getD (i % m) [] = (deal (thg L m) m i)[i % m]'(by rw [deal_len]; exact hj) := by
        rw [List.getD_eq_getElem?_getD, List.getElem?_eq_getElem (by rw [deal_len]; exact hj)]
        rfl
      refine ⟨.ref D, rfl, _, rfl, _, rfl, _, _, rfl, rfl, by omega, D, _, _, .ref g, rfl, rfl, SqL.of hD5, at_of (j := i % m) ?_ ?_, .inl ⟨rfl, _, SqL.of hg2⟩, ?_⟩
      · rw [Int.zero_add, Int.natCast_emod]
      · rw [List.getElem?_map, hg1]
        rfl
      refine ⟨.ref t, rfl, _, rfl, t, LI (thg L m), _, .int ((thg L m).getD i 0), rfl, rfl, SqL.of ht5, at_of (j := i) (by omega) (li_getD hit), g, _, _, rfl, rfl, hg2, ?_, ?_⟩
      · rw [LI, List.length_map]
        refine sz_lt ?_
        have h1 := deal_at (thg L m) hm0 i (i % m) hj
        rw [List.getElem?_eq_getElem (by rw [deal_len]; exact hj)] at h1
        rw [Option.some.inj h1, List.length_map]
        have := List.length_filter_le (fun a => decide (a % m = i % m)) (List.range i)
        rw [List.length_range] at this
        omega
      · have hgm : g ∈ ts := List.mem_of_getElem? hg1
        have tg : t ≠ g := fun z => tts (by rw [z]; exact hgm)
        have Dg : D ≠ g := fun z => Dts (by rw [z]; exact hgm)
        refine ⟨_, _, _, rfl, sm_put s5 (s3.free (fts g hgm)), by rw [upd_ne tg]; exact ht5, by rw [upd_ne Dg]; exact hD5, ?_⟩
        have := oa5.put (g := g) (x := (deal (thg L m) m i).getD (i % m) [] ++ [(thg L m).getD i 0]) nts hg1
        rw [li_snoc, ← egd]
        exact this
    · rintro σ H5 ⟨z5, z7, z8, rfl, s5, ht5, hD5, oa5⟩
      exact ⟨.ref D, rfl, q _ D ts s5 (s3.free hD) (fun g hg => s3.free (fts g hg)) Dts nts hD5 oa5⟩
def GdAt (K : PySem.W.Frag) (H H' : Hp) (o dx gl : Addr) (gs : List Addr) (G : List (List Int)) : Prop := Same H H' ∧ H o = none ∧ H gl = none ∧ (∀ g ∈ gs, H g = none) ∧ gl ∉ gs ∧ gs.Nodup ∧ H' o = some (.ins (He.ga K "Grouped") dx [("groups", .ref gl)]) ∧ H' gl = some (.lst (gs.map V.ref)) ∧ ObjsAt H' oL gs G
def sp_grouped (K : PySem.W.Frag) : Sp := sp2 fun x y H Q _ => ∃ a L n, x = .ref a ∧ SqL K H a (LI L) ∧ Good L ∧ y = .int (n : Nat) ∧ 1 ≤ n ∧ n ≤ 1000 ∧ ∀ H' o dx gl gs G, GdAt K H H' o dx gl gs G → GroupOK L n G → Q (.ref o) H'
theorem k_grouped (T : Tp K mg base) : DefOk P w K mg base CX0 3 "grouped" ["heap", "size"] (sp_grouped K) := by
  obtain ⟨fd, F⟩ := d_grouped T
  refine ⟨fd, F.ok sc_grouped len2 (fun cdv A outer s H vs Q E hr h => ?_), (F.bindsN fun _ _ _ _ _ _ us hl => match us, hl with | [_, _], _ => rfl), F.kp, g_grouped T⟩
  refine ⟨_, PSs.nox (pss_cons (ps_expr (pe_fn (k_check_heap T) (hr.mono (by decide)) (by rfl) pass0 (pa_cons (pv 0) pa_nil)))
      (pss_cons (ps_expr (pe_fn (k_check_number T) (hr.mono (by decide)) (by rfl) pass0 (pa_cons (pv 1) pa_nil)))
      (pss_cons (ps_set (i := 2) sc_grouped.nd rfl (Or.inl rfl) (pe_op op_fdiv (pe_callB (zlen K) (by rfl) (n_len T) (by decide +kernel) (pa_cons (pv 0) pa_nil)) (pv 1)))
      (pss_cons (ps_while PassesOwn.never (pt_cmpR op_lt (pe_fn (k_room_for T) (hr.mono (by decide)) (by rfl) pass0 (pa_cons (pv 0) (pa_cons (pv 2) pa_nil))) (pe_op op_mul (pv 2) (pv 1)) (nomark _)) (pss_one (ps_set (i := 2) sc_grouped.nd rfl (Or.inl rfl) (pe_op op_fdiv (pe_fn (k_room_for T) (hr.mono (by decide)) (by rfl) pass0 (pa_cons (pv 0) (pa_cons (pv 2) pa_nil))) (pv 1)))))
      (pss_one (ps_ret (zmk K rfl (m_Grouped T) (hr.mono (by decide)) (by rfl) pass0 (pa_cons (pe_fn (k_dealt T) (hr.mono (by decide)) (by rfl) pass0 (pa_cons (pv 0) (pa_cons (pv 2) (pa_cons (pv 1) pa_nil)))) pa_nil)))))))), ?_⟩
  obtain ⟨_, _, rfl, a, L, n, rfl, hS, hg, rfl, h1, h2, q⟩ := h
  have hlen := hg.len
  refine ⟨.ref a, rfl, _, rfl, a, L, rfl, hS, hg, fun H1 s1 => ?_⟩
  refine ⟨_, rfl, _, rfl, (n : Int), rfl, by omega, by omega, ?_⟩
  refine ⟨.ref a, rfl, a, LI L, rfl, .inl (s1.seq hS), _, rfl, _, _, rfl, rfl, ⟨by omega, by omega⟩, ?_⟩
  have e0 : ((LI L).length : Int) / (n : Int) = ((L.length / n : Nat) : Int) := by rw [LI, List.length_map]; exact (Int.natCast_ediv ..).symm
  have hq1 : room L (((L.length / n : Nat) : Int) + 1) < (((L.length / n : Nat) : Int) + 1) * n := by
    have h3 := room_le_len L (((L.length / n : Nat) : Int) + 1)
    have h4 : L.length < (L.length / n + 1) * n := by
      have := Nat.div_add_mod L.length n
      have h5 := Nat.mod_lt L.length (show 0 < n by omega)
      rw [Nat.succ_mul, Nat.mul_comm]
      omega
    have h5 : ((((L.length / n + 1) * n : Nat)) : Int) = (((L.length / n : Nat) : Int) + 1) * n := by rw [Int.natCast_mul, Int.natCast_add]; rfl
    omega
  have hq2 : L.length / n ≤ 100000 := Nat.le_trans (Nat.div_le_self _ _) hlen
  refine ⟨fun m σ H' => σ = [some (.ref a), some (.int (n : Nat)), some (.int (m : Nat))] ∧ Same H H' ∧ room L ((m : Int) + 1) < ((m : Int) + 1) * n ∧ m ≤ 100000, ⟨L.length / n, ?_, s1, hq1, hq2⟩, ?_⟩
  · show [some (V.ref a), some (.int (n : Nat)), some (.int (((LI L).length : Int) / (n : Int)))] = _
    rw [e0]
  rintro m σ H2 ⟨rfl, s2, hm1, hm2⟩
  refine ⟨.ref a, rfl, _, rfl, _, _, rfl, a, L, _, rfl, s2.seq hS, hlen, rfl, fun H3 s3 => ?_⟩
  refine ⟨_, rfl, _, rfl, _, _, rfl, rfl, .inl ⟨by omega, by omega⟩, _, _, rfl, rfl, _, rfl, ite2 (fun e => ?_) (fun e => ?_)⟩
  · have e := of_decide_eq_true e
    refine ⟨fun σ H' => ∃ m', m' < m ∧ σ = [some (.ref a), some (.int (n : Nat)), some (.int (m' : Nat))] ∧ Same H H' ∧ room L ((m' : Int) + 1) < ((m' : Int) + 1) * n ∧ m' ≤ 100000, fun σ' H' z => z, ?_⟩
    refine ⟨.ref a, rfl, _, rfl, _, _, rfl, a, L, _, rfl, (s2.trans s3).seq hS, hlen, rfl, fun H4 s4 => ⟨_, rfl, _, _, rfl, rfl, ⟨by omega, by omega⟩, ?_⟩⟩
    have hn0 : (0 : Int) < n := by omega
    have g1 : room L (m : Int) / n < m := Int.ediv_lt_of_lt_mul hn0 e
    have g2 : 0 ≤ room L (m : Int) / n := Int.ediv_nonneg (room_nn L (by omega)) (by omega)
    have g3 := Int.lt_ediv_add_one_mul_self (room L (m : Int)) hn0
    obtain ⟨m', em⟩ : ∃ m' : Nat, room L (m : Int) / n = (m' : Int) := ⟨(room L (m : Int) / n).toNat, by omega⟩
    have g4 := room_mono L (g := (m' : Int) + 1) (h := (m : Int)) (by omega)
    rw [em] at g3
    refine ⟨m', by omega, ?_, (s2.trans s3).trans s4, by omega, by omega⟩
    show [some (V.ref a), some (.int (n : Nat)), some (.int (room L (m : Int) / (n : Int)))] = _
    rw [em]
  · have e : ¬ room L (m : Int) < (m : Int) * n := fun z => e (decide_eq_true z)
    have s23 := s2.trans s3
    have hf : (m : Int) * n ≤ room L m := by omega
    refine ⟨.ref a, rfl, _, rfl, _, rfl, _, _, _, rfl, a, L, m, n, rfl, s23.seq hS, hlen, rfl, rfl, hm2, by omega, hf, fun H4 gl gs s4 ngl ngs ggl nd hgl oa => ?_⟩
    intro o dx no ndx ne
    have s45 : Same H4 (upd (upd H4 dx (.own o)) o (.ins (He.ga K "Grouped") dx [])) := sm_put (same_upd ndx) no
    refine ⟨_, _, rfl, o, dx, gl, gs, _, rfl, rfl, upd_same, SqL.of (s45 _ _ hgl), oa.same s45, by rw [deal_len]; exact hm2, fun H6 gl2 ts sX ngl2 nts gt nd2 ho hgl2 oa2 => ⟨rfl, ?_⟩⟩
    have s5 : Same H4 H6 := fun b u e => sX b u (ne_of_none e no) (s45 b u e)
    have s04 := s23.trans s4
    exact q H6 o dx gl2 ts _ ⟨s04.trans s5, s04.free no, s04.free (s45.free ngl2), fun g hg => s04.free (s45.free (nts g hg)), gt, nd2, ho, hgl2, oa2⟩ (deal_ok hf hm1)
def sp__law_grouped (K : PySem.W.Frag) : Sp := sp3 fun x y z H Q _ => ∃ m M gl gs G n, x = .ref m ∧ SqL K H m (LI M) ∧ M.length ≤ 50000 ∧ y = .ref gl ∧ H gl = some (.lst (gs.map V.ref)) ∧ ObjsAt H oL gs G ∧ z = .int n ∧
  G.length ≤ 50000 ∧ G.flatten.length ≤ 50000 ∧ (∀ g ∈ G, g.length ≤ 4000) ∧ ∀ H', Same H H' → Q (.bl (showsG G M n)) H'
theorem k__law_grouped (T : Tp K mg base) : DefOk P w K mg base CX0 2 "_law_grouped" ["_law_heap_here", "_law_groups", "_law_size"] (sp__law_grouped K) := by
  obtain ⟨fd, F⟩ := d__law_grouped T
  refine ⟨fd, F.ok sc__law_grouped len3 (fun cdv A outer s H vs Q E hr h => ?_), (F.bindsN fun _ _ _ _ _ _ us hl => match us, hl with | [_, _, _], _ => rfl), F.kp, g__law_grouped T⟩
  refine ⟨_, PSs.nox (pss_cons (ps_set (i := 3) sc__law_grouped.nd rfl (Or.inl rfl) (pe_fn (k__law_many T) (hr.mono (by decide)) (by rfl) pass0 (pa_cons (pv 0) pa_nil)))
      (pss_cons (ps_for PassesOwn.never rfl (pi_list (pv 1)) (pg_name (i := 4) sc__law_grouped.nd rfl (Or.inl rfl))
        (pss_cons (ps_if (PW.pt (pw_or (pt_cmpR op_ne (pe_callB (zlen K) (by rfl) (n_len T) (by decide +kernel) (pa_cons (pv 4) pa_nil)) (pv 2) (nomark _)) (pw_or1 (pt_cmpR op_ne (pe_lenSetN K (by rfl) (n_len T) (by rfl) (n_set T) (pv 4)) (pv 2) (nomark _))))) (pss_one (ps_ret pe_bl)) pss_nil)
      (pss_one (ps_for PassesOwn.never rfl (pi_list (pv 4)) (pg_name (i := 5) sc__law_grouped.nd rfl (Or.inl rfl))
        (pss_one (ps_dput (hu_of hr) (pv 3) (pv 5) (pe_op op_sub (pe_dget2 (hu_of hr) (pv 3) (pv 5) pe_int ⟨by rfl, by rfl, by rfl, by rfl⟩) pe_int) (by rfl)))))))
      (pss_cons (ps_if (pt_val (pe_callB (zany K) (by rfl) (n_any T) (by decide +kernel) (pa_cons (pe_lc (own := [("_law_kind", 5), ("_law_many_here", 7)]) (g := (gTup K 2 (gCons (gName 5) (gCons (gName 7) gNil)))) (tt := tYes) (by rfl) sc__law_grouped.nd (pi_itemsN (pv 3)) (blkOk_by (own := [("_law_kind", 5), ("_law_many_here", 7)]) (N := N__law_grouped) (sc := defScope s__law_grouped) (by decide +kernel)) (fun _ _ _ _ _ => pg_tup rfl (pgs_cons (pg_name (i := 5) sc__law_grouped.nd rfl (Or.inl rfl)) (pgs_cons (pg_name (i := 7) sc__law_grouped.nd rfl (Or.inl rfl)) pgs_nil))) (fun _ _ _ _ _ => pts_nil) (fun _ _ _ _ _ => (pe_cmpR op_lt (pv 7) pe_int (nomark _)))) pa_nil))) (pss_one (ps_ret pe_bl)) pss_nil)
      (pss_cons (ps_set (i := 6) sc__law_grouped.nd rfl (Or.inr rfl) (pe_op op_add (pe_callB (zlen K) (by rfl) (n_len T) (by decide +kernel) (pa_cons (pv 1) pa_nil)) pe_int))
      (pss_one (ps_ret (pe_cmpR op_lt (pe_callB (zsum K) (by rfl) (n_sum T) (by decide +kernel) (pa_cons (pe_lc (own := [("_law_kind", 5), ("_law_many_here", 7)]) (g := (gTup K 2 (gCons (gName 5) (gCons (gName 7) gNil)))) (tt := tYes) (by rfl) sc__law_grouped.nd (pi_itemsN (pe_fn (k__law_many T) (hr.mono (by decide)) (by rfl) pass0 (pa_cons (pv 0) pa_nil))) (blkOk_by (own := [("_law_kind", 5), ("_law_many_here", 7)]) (N := N__law_grouped) (sc := defScope s__law_grouped) (by decide +kernel)) (fun _ _ _ _ _ => pg_tup rfl (pgs_cons (pg_name (i := 5) sc__law_grouped.nd rfl (Or.inl rfl)) (pgs_cons (pg_name (i := 7) sc__law_grouped.nd rfl (Or.inl rfl)) pgs_nil))) (fun _ _ _ _ _ => pts_nil) (fun _ _ _ _ _ => (pe_callB (call_min2 rfl) (by rfl) (n_min T) (by decide +kernel) (pa_cons (pv 7) (pa_cons (pv 6) pa_nil))))) pa_nil)) (pe_op op_mul (pv 6) (pv 2)) (nomark _)))))))), ?_⟩
  obtain ⟨_, _, _, rfl, m, M, gl, gs, G, n, rfl, hm, zM, rfl, hgl, hgs, rfl, zG, zF, zg, q⟩ := h
  have lgs := paired_len hgs
  refine ⟨.ref m, rfl, _, rfl, m, M, rfl, hm, by omega, fun H1 d s1 nd hd => ?_⟩
  refine ⟨.ref gl, rfl, gl, rfl, ⟨_, SqL.of (s1 _ _ hgl)⟩, ?_⟩
  have zc := tally_len M
  have ztab : ∀ X : List Int, X.length ≤ G.flatten.length → (dk (subL (tally M) X)).length < sizeLine := fun X hX => sz_lt (by
    have := subL_len (tally M) X
    rw [dk_len]
    omega)
  have ndc : ∀ X, ((subL (tally M) X).map (·.1)).Nodup := fun X => subL_nodup (tally_nodup M) X
  refine for_it (walk_list (xs := gs.map V.ref)) (fun i σ H' => ∃ y4 y5, σ = [some (.ref m), some (.ref gl), some (.int n), some (.ref d), y4, y5, none, none] ∧ Same H H' ∧ H' d = some (.dK (dk (subL (tally M) (G.take i).flatten))) ∧ (G.take i).all (fun g => decide ((g.length : Int) = n) && decide (((dd g).length : Int) = n)) = true)
    ⟨none, none, rfl, s1, hd, rfl⟩ (fun i σ H' _ ⟨_, _, _, s, _⟩ => SqL.of (s _ _ hgl)) ?_ ?_
  · rintro i x σ _ H2 hi ⟨y4, y5, rfl, s2, hd2, ok⟩ ⟨rfl, hx⟩
    rw [List.length_map] at hi
    have hi' : i < G.length := by omega
    obtain ⟨g, rfl, hg, _⟩ := objs_at (hgs.same s2) hi' hx
    have hgm : G[i] ∈ G := List.getElem_mem hi'
    have efl : G.flatten = (G.take i).flatten ++ (G[i] ++ (G.drop (i + 1)).flatten) := by
      conv => lhs; rw [← List.take_append_drop i G, List.drop_eq_getElem_cons hi']
      rw [List.flatten_append, List.flatten_cons]
    have zfl : (G.take i).flatten.length + G[i].length ≤ G.flatten.length := by
      rw [efl, List.length_append, List.length_append]
      omega
    refine ⟨.ref g, rfl, g, _, rfl, .inl (SqL.of hg), _, rfl, rfl, _, rfl, ?_⟩
    by_cases c1 : (G[i].length : Int) = n
    case neg =>
      rw [show (!decide (V.int ((LI G[i]).length : Nat) = V.int n)) = true by
        have : ¬ V.int ((LI G[i]).length : Nat) = V.int n := fun z => c1 (by rw [← V.int.inj z, LI, List.length_map])
        rw [decide_eq_false this]
        rfl]
      refine iteT ?_
      refine iteT ?_
      rw [showsG_bad hgm (fun z => c1 z.1)] at q
      exact q _ s2
    rw [show (!decide (V.int ((LI G[i]).length : Nat) = V.int n)) = false by
      have : V.int ((LI G[i]).length : Nat) = V.int n := by rw [LI, List.length_map, c1]
      rw [decide_eq_true this]
      rfl]
    refine iteF ⟨.ref g, rfl, g, G[i], rfl, SqL.of hg, zg _ hgm, _, rfl, rfl, _, rfl, ?_⟩
    by_cases c2 : ((dd G[i]).length : Int) = n
    case neg =>
      rw [show (!decide (V.int ((dd G[i]).length : Nat) = V.int n)) = true by
        have : ¬ V.int ((dd G[i]).length : Nat) = V.int n := fun z => c2 (V.int.inj z)
        rw [decide_eq_false this]
        rfl]
      refine iteT ?_
      rw [showsG_bad hgm (fun z => c2 z.2)] at q
      exact q _ s2
    rw [show (!decide (V.int ((dd G[i]).length : Nat) = V.int n)) = false by
      have : V.int ((dd G[i]).length : Nat) = V.int n := by rw [c2]
      rw [decide_eq_true this]
      rfl]
    refine iteF ?_
    refine ⟨.ref g, rfl, g, rfl, ⟨_, SqL.of hg⟩, ?_⟩
    refine for_it (walk_list (xs := LI G[i])) (fun j σ H' => ∃ y5, σ = [some (.ref m), some (.ref gl), some (.int n), some (.ref d), some (.ref g), y5, none, none] ∧ Same H H' ∧ H' g = some (oL G[i]) ∧ H' d = some (.dK (dk (subL (tally M) ((G.take i).flatten ++ G[i].take j)))))
      ⟨_, rfl, s2, hg, by rw [List.take_zero, List.append_nil]; exact hd2⟩ (fun j σ H' _ ⟨_, _, _, h, _⟩ => SqL.of h) ?_ ?_
    · rintro j x σ _ H3 hj ⟨z5, rfl, s3, hg3, hd3⟩ ⟨rfl, hx⟩
      rw [LI, List.length_map] at hj
      rw [li_get hj] at hx
      obtain rfl := Option.some.inj hx
      have hlt := ztab ((G.take i).flatten ++ G[i].take j) (by rw [List.length_append, List.length_take]; omega)
      have dg : d ≠ g := fun z => by rw [z, hg3] at hd3; cases hd3
      refine ⟨.ref d, rfl, d, rfl, .inl ⟨_, .inl hd3⟩, _, rfl, _, DGet.k (k := Sum.inl G[i][j]) hd3, (lk (subL (tally M) ((G.take i).flatten ++ G[i].take j)) G[i][j]).getD 0, 1, ?_, rfl, ?_⟩
      · rw [dk_val]
        cases lk (subL (tally M) ((G.take i).flatten ++ G[i].take j)) G[i][j] <;> rfl
      · refine ⟨.ref d, rfl, _, rfl, d, _, rfl, DPut.k (k := Sum.inl G[i][j]) hd3 hlt, _, rfl, sm_put s3 nd, by rw [upd_ne dg.symm]; exact hg3, ?_⟩
        rw [upd_same, dk_put _ _ _ (ndc _), List.take_add_one, List.getElem?_eq_getElem hj, ← List.append_assoc]
        show _ = some (HO.dK (dk (subL (tally M) (_ ++ [_]))))
        rw [subL_snoc]
    · rintro σ H3 ⟨z5, rfl, s3, hg3, hd3⟩
      rw [LI, List.length_map, List.take_length] at hd3
      refine ⟨_, _, rfl, s3, ?_, ?_⟩
      · rw [List.take_add_one, List.getElem?_eq_getElem hi', List.flatten_append]
        simpa using hd3
      · rw [List.take_add_one, List.getElem?_eq_getElem hi', List.all_append, ok]
        simp [c1, c2]
  · rintro σ H2 ⟨y4, y5, rfl, s2, hd2, ok⟩
    rw [List.length_map, lgs, List.take_length] at hd2 ok
    have hsh : showsG G M n = (G.flatten.all (fun k => decide (G.flatten.count k ≤ M.count k)) && decide (room M (G.length + 1) < ((G.length : Int) + 1) * n)) := by
      unfold showsG
      rw [ok, Bool.true_and]
    have hneg := subL_neg G.flatten (tally_nodup M) (tally_lk M)
    have zT := subL_len (tally M) G.flatten
    generalize subL (tally M) G.flatten = T1 at hd2 hneg zT
    rw [hsh] at q
    refine ⟨.ref d, rfl, d, _, rfl, hd2, fun o => ⟨d, o, _, rfl, upd_same, fun D hD => ?_⟩⟩
    have s3 : Same H (upd H2 d (.frz o (.dK (dk T1)))) := sm_put s2 nd
    refine lc_pure (L := T1) (fun p => some (.bl (decide (p.2 < 0)))) (by rw [← dk_len]; exact walk_items) hD (by omega) (fun _ _ s g => s _ _ g) upd_same ?_ (fun H3 s4 hr => ?_)
    · rintro i hi x H5 H6 s5 g5 ⟨Tp, k, v, rfl, nT, rfl, hk, hv⟩ Z Zn z1 z2
      obtain ⟨rfl, rfl⟩ := dk_item hi hk hv
      exact ⟨Tp, _, rfl, SqT.of upd_same, rfl, _, _, rfl, _, _, rfl, rfl, rfl, _, rfl, _, _, rfl, rfl, z1 _ _ rfl (same_upd nT)⟩
    rw [fm_map] at hr
    have s03 := s3.trans s4
    refine ⟨D, T1.map (fun p => decide (p.2 < 0)), rfl, by rw [List.map_map]; exact SqL.of hr, T1.any (fun p => decide (p.2 < 0)), by rw [any_map], ?_⟩
    cases hA : T1.any (fun p => decide (p.2 < 0)) with
    | true =>
      refine iteT ?_
      obtain ⟨p, hp, hlt⟩ := List.any_eq_true.mp hA
      rw [hneg.mp ⟨p, hp, of_decide_eq_true hlt⟩, Bool.false_and] at q
      exact q _ s03
    | false =>
      refine iteF ?_
      have hall : G.flatten.all (fun k => decide (G.flatten.count k ≤ M.count k)) = true := by
        cases hz : G.flatten.all (fun k => decide (G.flatten.count k ≤ M.count k)) with
        | true => rfl
        | false =>
          obtain ⟨p, hp, hlt⟩ := hneg.mpr hz
          have := List.any_eq_false.mp hA p hp
          exact absurd (decide_eq_true hlt) this
      rw [hall, Bool.true_and] at q
      refine ⟨.ref gl, rfl, gl, _, rfl, .inl (SqL.of (s03 _ _ hgl)), _, _, rfl, rfl, ?_⟩
      have elg : ((gs.map V.ref).length : Int) + 1 = (G.length : Int) + 1 := by rw [List.length_map, lgs]
      refine ⟨.ref m, rfl, _, rfl, m, M, rfl, s03.seq hm, by omega, fun H7 d2 s7 nd2 hd2' => ⟨d2, dk (tally M), rfl, hd2', fun o2 => ⟨d2, o2, _, rfl, upd_same, fun D2 hD2 => ?_⟩⟩⟩
      have s8 : Same H (upd H7 d2 (.frz o2 (.dK (dk (tally M))))) := sm_put (s03.trans s7) (s03.free nd2)
      refine lc_pure (L := tally M) (fun p => some (.int (mn p.2 ((G.length : Int) + 1)))) (by rw [← dk_len]; exact walk_items) hD2 (by omega) (fun _ _ s g => s _ _ g) upd_same ?_ (fun H9 s9 hr9 => ?_)
      · rintro i hi x H5 H6 s5 g5 ⟨Tp, k, v, rfl, nT, rfl, hk, hv⟩ Z Zn z1 z2
        obtain ⟨rfl, rfl⟩ := dk_item hi hk hv
        refine ⟨Tp, _, rfl, SqT.of upd_same, rfl, _, _, rfl, _, _, rfl, rfl, rfl, _, rfl, _, rfl, _, _, rfl, z1 _ _ ?_ (same_upd nT)⟩
        rw [elg]
        rfl
      · rw [fm_map, show ((tally M).map fun p => V.int (mn p.2 ((G.length : Int) + 1))) = LI ((tally M).map fun p => mn p.2 ((G.length : Int) + 1)) from (List.map_map ..).symm] at hr9
        refine ⟨D2, _, rfl, SqL.of hr9, ?_⟩
        rw [show ((tally M).map fun p => mn p.2 ((G.length : Int) + 1)).sum = room M ((G.length : Int) + 1) from room_tally M _]
        refine ⟨_, rfl, _, rfl, _, _, rfl, rfl, .inl ⟨?_, ?_⟩, _, _, rfl, rfl, ?_⟩
        · rw [elg]; omega
        · rw [elg]; omega
        · rw [elg]
          exact q _ (s8.trans s9)
def dG (G : List (List Int)) : PyData := .list (G.map dI)
theorem dpa_lg {K : PySem.W.Frag} {H : Hp} : ∀ {ts : List Addr} {G : List (List Int)}, ObjsAt H oL ts G → DpAll K H (ts.map V.ref) (G.map dI)
  | _, _, .nil => .nil
  | _, _, .cons h t => .cons (dp_li (SqL.of h)) (dpa_lg t)
theorem dp_lg {K : PySem.W.Frag} {H : Hp} {a : Addr} {ts : List Addr} {G : List (List Int)} (h : SqL K H a (ts.map V.ref)) (o : ObjsAt H oL ts G) : Dp K H (.ref a) (dG G) := .lst h (dpa_lg o)
theorem lay_lg : ∀ G : List (List Int), PyData.canLayAll0 (G.map dI) = true
  | [] => by simp [PyData.canLayAll0]
  | g :: r => by
    have := lay_ints g
    simp [PyData.canLayAll0, PyData.canLay0, dI, this, lay_lg r]
theorem dep_lg : ∀ G : List (List Int), PyData.depthAll (G.map dI) ≤ 3
  | [] => by simp [PyData.depthAll]
  | g :: r => by
    have h1 := dep_ints g
    have h2 := dep_lg r
    simp [PyData.depthAll, PyData.depth, dI]
    omega
theorem shaped_dG (G : List (List Int)) : SeqAt.shaped (dG G) = true := by
  have h1 := lay_lg G
  have h2 := dep_lg G
  simp [SeqAt.shaped, dG, PyData.canLay0, PyData.depth, h1]
  omega
theorem eqv_lg : ∀ G G' : List (List Int), PyData.eqvAll (G.map dI) (G'.map dI) = decide (G = G')
  | [], [] => by simp [PyData.eqvAll]
  | [], _ :: _ => by simp [PyData.eqvAll]
  | _ :: _, [] => by simp [PyData.eqvAll]
  | a :: r, b :: t => by
    simp only [List.map_cons, PyData.eqvAll, eqv_dI, eqv_lg r t, List.cons.injEq]
    by_cases e : a = b <;> simp [e]
theorem eqv_dG (G G' : List (List Int)) : PyData.eqv (dG G) (dG G') = decide (G = G') := by
  simp only [dG, PyData.eqv, eqv_lg]
theorem objs_erase {H : Hp} {α : Type} {o : α → HO} : ∀ {ts : List Addr} {L : List α} (i : Nat), ObjsAt H o ts L → ObjsAt H o (ts.eraseIdx i) (L.eraseIdx i)
  | _, _, _, .nil => .nil
  | _, _, 0, .cons _ t => t
  | _, _, i + 1, .cons h t => .cons h (objs_erase i t)
theorem objs_set {H : Hp} {α : Type} {o : α → HO} {t : Addr} {x : α} (ht : H t = some (o x)) : ∀ {ts : List Addr} {L : List α} (i : Nat), ObjsAt H o ts L → ObjsAt H o (ts.set i t) (L.set i x)
  | _, _, _, .nil => .nil
  | _, _, 0, .cons _ r => .cons ht r
  | _, _, i + 1, .cons h r => .cons h (objs_set ht i r)
theorem map_set_ref (ts : List Addr) (i : Nat) (t : Addr) : (ts.map V.ref).set i (.ref t) = (ts.set i t).map V.ref := (List.map_set ..).symm
theorem objs_keep {H H' : Hp} {α : Type} {o : α → HO} : ∀ {ts : List Addr} {L : List α}, (∀ t ∈ ts, ∀ u, H t = some u → H' t = some u) → ObjsAt H o ts L → ObjsAt H' o ts L
  | _, _, _, .nil => .nil
  | _, _, k, .cons h t => .cons (k _ List.mem_cons_self _ h) (objs_keep (fun t ht => k t (List.mem_cons_of_mem _ ht)) t)
/-- groups at D -/
structure GSt (K : PySem.W.Frag) (H0 H : Hp) (D : Addr) (G : List (List Int)) : Prop where
  sm : Sm K H0 H
  gs : ∃ ts : List Addr, H D = some (.lst (ts.map V.ref)) ∧ ObjsAt H oL ts G ∧ D ∉ ts
  zG : G.length ≤ 65
  zg : ∀ g ∈ G, g.length ≤ 5
theorem GSt.same {K : PySem.W.Frag} {H0 H H' : Hp} {D : Addr} {G : List (List Int)} (h : GSt K H0 H D G) (s : Same H H') : GSt K H0 H' D G := by
  obtain ⟨a, ⟨ts, b, c, n⟩, d, e⟩ := h
  exact ⟨a.trans (sm_of s), ⟨ts, s _ _ b, c.same s, n⟩, d, e⟩
theorem GSt.put {K : PySem.W.Frag} {H0 H : Hp} {D : Addr} {G G' : List (List Int)} {ts : List Addr} (h : GSt K H0 H D G) (fD : Fr H0 D) (o : ObjsAt H oL ts G') (n : D ∉ ts) (z : G'.length ≤ 65) (zg : ∀ g ∈ G', g.length ≤ 5) : GSt K H0 (upd H D (.lst (ts.map V.ref))) D G' := by
  obtain ⟨a, ⟨ts0, b, c, _⟩, d, e⟩ := h
  exact ⟨sm_mut a fD b, ⟨ts, upd_same, o.upd n, n⟩, z, zg⟩
def sp__law_groups_right (K : PySem.W.Frag) : Sp := sp2 fun x y H Q _ => ∃ a L c, x = .ref a ∧ SqL K H a (LI L) ∧ Good L ∧ L.length ≤ 63 ∧ y = .int c ∧ ∀ H', Sm K H H' → Q (.bl true) H'
theorem k__law_groups_right (T : Tp K mg base) : DefOk P w K mg base CX0 4 "_law_groups_right" ["_law_heap_here", "_law_cell"] (sp__law_groups_right K) := by
  obtain ⟨fd, F⟩ := d__law_groups_right T
  refine ⟨fd, F.ok sc__law_groups_right len2 (fun cdv A outer s H vs Q E hr h => ?_), (F.bindsN fun _ _ _ _ _ _ us hl => match us, hl with | [_, _], _ => rfl), F.kp, g__law_groups_right T⟩
  refine ⟨_, PSs.nox (pss_cons (ps_set (i := 2) sc__law_groups_right.nd rfl (Or.inl rfl) (pe_op op_add pe_int (pe_fn (k__law_draw T) (hr.mono (by decide)) (by rfl) pass0 (pa_cons (pv 1) (pa_cons pe_int (pa_cons pe_int pa_nil))))))
      (pss_cons (ps_setLc (i := 4) (own := [("_law_group", 3)]) (g := gName 3) (tt := tYes) (by rfl) sc__law_groups_right.nd rfl rfl (sw_true rfl rfl rfl (by decide +kernel)) (pi_list (zfld K (pe_fn (k_grouped T) (hr.mono (by decide)) (by rfl) pass0 (pa_cons (pv 0) (pa_cons (pv 2) pa_nil))) (by rfl))) (blkOk_by (own := [("_law_group", 3)]) (N := N__law_groups_right) (sc := defScope s__law_groups_right) (by decide +kernel)) (fun _ _ _ _ _ => pg_name (i := 3) sc__law_groups_right.nd rfl (Or.inl rfl)) (fun _ _ _ _ _ => pts_nil) (fun _ _ _ _ _ => (pe_callTy (zlist K) (by rfl) (n_list T) (by decide +kernel) (pa_cons (pv 3) pa_nil))))
      (pss_cons (ps_set (i := 5) sc__law_groups_right.nd rfl (Or.inl rfl) (pe_fn (k__law_draw T) (hr.mono (by decide)) (by rfl) pass0 (pa_cons (pv 1) (pa_cons pe_int (pa_cons pe_int pa_nil)))))
      (Evl.pss_cut (ps_if (pt_cmpR (zneD K hr.units) (pv 4) (pe_lst pa_nil) (nomark _)) (pss_cons (ps_set (i := 6) sc__law_groups_right.nd rfl (Or.inl rfl) (pe_fn (k__law_draw T) (hr.mono (by decide)) (by rfl) pass0 (pa_cons (pv 1) (pa_cons pe_int (pa_cons (pe_callB (zlen K) (by rfl) (n_len T) (by decide +kernel) (pa_cons (pv 4) pa_nil)) pa_nil)))))
      (Evl.pss_cut (ps_if (pt_cmpR op_eq (pv 5) pe_int (nomark _)) (pss_one (ps_expr (pe_bm PySem.F.plainAttrs_list PySem.F.slot_list_pop PySem.F.type_list_pop mt_popAt (pv 4) (pa_cons (pv 6) pa_nil)))) pss_nil)
      (Evl.pss_cut (ps_if (pt_cmpR op_eq (pv 5) pe_int (nomark _)) (pss_one (ps_asg (pe_fn (k__law_bent T) (hr.mono (by decide)) (by rfl) pass0 (pa_cons (pe_ix (zixL K) (pv 4) (pv 6) (fun _ _ => rfl)) (pa_cons (pe_op op_fdiv (pv 1) pe_int) pa_nil))) (pg_sub (pv 4) (pv 6) set_list))) pss_nil)
      (pss_one (ps_if (pt_cmpR op_eq (pv 5) pe_int (nomark _)) (pss_one (ps_expr (pe_bm PySem.F.plainAttrs_list PySem.F.slot_list_append PySem.F.type_list_append mt_append (pv 4) (pa_cons (pe_callTy (zlist K) (by rfl) (n_list T) (by decide +kernel) (pa_cons (pe_ix (zixL K) (pv 4) (pv 6) (fun _ _ => rfl)) pa_nil)) pa_nil)))) pss_nil))))) pss_nil)
      (pss_cons (ps_setLc (i := 7) (own := [("_law_group", 3)]) (g := gName 3) (tt := tYes) (by rfl) sc__law_groups_right.nd rfl rfl (sw_true rfl rfl rfl (by decide +kernel)) (pi_list (pv 4)) (blkOk_by (own := [("_law_group", 3)]) (N := N__law_groups_right) (sc := defScope s__law_groups_right) (by decide +kernel)) (fun _ _ _ _ _ => pg_name (i := 3) sc__law_groups_right.nd rfl (Or.inl rfl)) (fun _ _ _ _ _ => pts_nil) (fun _ _ _ _ _ => (pe_callTy (zlist K) (by rfl) (n_list T) (by decide +kernel) (pa_cons (pv 3) pa_nil))))
      (pss_cons (ps_set (i := 8) sc__law_groups_right.nd rfl (Or.inl rfl) (zmk K rfl (m_Grouped T) (hr.mono (by decide)) (by rfl) pass0 (pa_cons (pv 7) pa_nil)))
      (pss_cons (ps_for PassesOwn.never rfl (pi_list (pv 7)) (pg_name (i := 3) sc__law_groups_right.nd rfl (Or.inl rfl))
        (pss_one (ps_expr (pe_bm PySem.F.plainAttrs_list PySem.F.slot_list_append PySem.F.type_list_append mt_append (pv 3) (pa_cons pe_int pa_nil)))))
      (pss_cons (ps_expr (pe_bm PySem.F.plainAttrs_list PySem.F.slot_list_append PySem.F.type_list_append mt_append (pv 7) (pa_cons (pe_lst pa_nil) pa_nil)))
      (pss_cons (ps_if (pt_cmpR (zneD K hr.units) (zfld K (pv 8) (by rfl)) (pv 4) (nomark _)) (pss_one (ps_ret pe_bl)) pss_nil)
      (pss_cons (ps_for PassesOwn.never rfl (pi_tup (pe_tup (pa_cons (pv 2) (pa_cons (pe_op op_add (pv 2) pe_int) pa_nil)))) (pg_name (i := 9) sc__law_groups_right.nd rfl (Or.inl rfl))
        (pss_one (ps_if (pt_not (pt_val (pe_fn (k__law_says T) (hr.mono (by decide)) (by rfl) pass0 (pa_cons (zmt K rfl (k_Grouped_shows T) (hr.mono (by decide)) pass0 (pv 8) (pa_cons (pv 0) (pa_cons (pv 9) pa_nil))) (pa_cons (pe_fn (k__law_grouped T) (hr.mono (by decide)) (by rfl) pass0 (pa_cons (pv 0) (pa_cons (pv 4) (pa_cons (pv 9) pa_nil)))) pa_nil))))) (pss_one (ps_ret pe_bl)) pss_nil)))
      (pss_one (ps_ret pe_bl)))))))))))), ?_⟩
  obtain ⟨_, _, rfl, a, L, c, rfl, hS, hg, zL, rfl, q⟩ := h
  refine ⟨_, rfl, _, _, _, rfl, c, 7, 4, rfl, rfl, rfl, by decide, by decide, fun H1 s1 => ⟨_, _, rfl, rfl, ?_⟩⟩
  have b1 := draw_nn c 7 4 (by decide)
  generalize draw c 7 4 = d at b1
  obtain ⟨n, hn⟩ : ∃ n : Nat, 1 + d = (n : Int) := ⟨(1 + d).toNat, by omega⟩
  have hn1 : 1 ≤ n := by omega
  have hn4 : n ≤ 4 := by omega
  refine ⟨.ref a, rfl, _, rfl, _, _, rfl, a, L, n, rfl, s1.seq hS, hg, congrArg V.int hn, hn1, by omega, fun H2 o dx gl gs G gd ok => ?_⟩
  obtain ⟨s2, no, ngl, ngs, glgs, nd2, ho, hgl, oa⟩ := gd
  have zG : G.length ≤ 63 := by
    have h1 := ok.fits
    have h2 := room_le_len L (G.length : Int)
    have h3 : (G.length : Int) * 1 ≤ (G.length : Int) * (n : Int) := Int.mul_le_mul_of_nonneg_left (by omega) (by omega)
    omega
  have zg : ∀ g ∈ G, g.length ≤ 4 := fun g hg' => by rw [(ok.size g hg').1]; exact hn4
  have s12 := s1.trans s2
  refine ⟨o, _, dx, _, .ref gl, rfl, ho, cls_Grouped T, na_Grouped_groups T, rfl, gl, rfl, ⟨_, SqL.of hgl⟩, fun D hD => ?_⟩
  have lgs := paired_len oa
  refine lc_fresh (L := G) oL (by rw [← lgs, ← List.length_map (f := V.ref)]; exact walk_list) hD (by omega) (fun _ _ s g => s.seq g) (SqL.of hgl) ?_ (fun H4 ts s4 nts fts Dts oa4 hDl => ?_)
  · rintro i hi x H5 H6 s5 _ ⟨rfl, hx⟩ Z Zn z1
    obtain ⟨g, rfl, hg5, _⟩ := objs_at (oa.same s5) hi hx
    exact ⟨rfl, .ref g, rfl, g, LI G[i], rfl, .inl (SqL.of hg5), fun l nl => z1 l _ nl upd_same (same_upd nl)⟩
  have fD : Fr H D := Fr.of (s12.free hD)
  have st0 : GSt K H H4 D G := ⟨sm_of (s12.trans s4), ⟨ts, hDl, oa4, Dts⟩, by omega, fun g hg' => by have := zg g hg'; omega⟩
  clear s2 no ngl ngs glgs nd2 ho hgl oa lgs s12 s4 nts fts Dts oa4 hDl hD
  refine ⟨_, rfl, _, _, _, rfl, c, 8, 6, rfl, rfl, rfl, by decide, by decide, fun H5 s5 => ?_⟩
  have st1 := st0.same s5
  generalize draw c 8 6 = w
  clear st0 s5 ok
  refine ⟨fun σ' H' => ∃ y6 G, σ' = [some (.ref a), some (.int c), some (.int (1 + d)), none, some (.ref D), some (.int w), y6, none, none, none] ∧ GSt K H H' D G, ?_, ?_⟩
  · refine ⟨.ref D, rfl, Nat.zero_le _, fun e ne => ?_⟩
    have st2 := st1.same (same_upd (o := .lst []) ne)
    obtain ⟨ts2, hD2, oa2, dn2⟩ := st2.gs
    by_cases hn0 : G = []
    · refine ⟨dG G, dG [], dp_lg (SqL.of hD2) oa2, dp_lg (ts := []) (SqL.of upd_same) .nil, shaped_dG _, shaped_dG _, false, by rw [eqv_dG, decide_eq_true hn0]; rfl, ?_⟩
      refine iteF ?_
      exact ⟨_, _, rfl, st2⟩
    refine ⟨dG G, dG [], dp_lg (SqL.of hD2) oa2, dp_lg (ts := []) (SqL.of upd_same) .nil, shaped_dG _, shaped_dG _, true, by rw [eqv_dG, decide_eq_false hn0]; rfl, ?_⟩
    refine iteT ?_
    have hpos : 0 < G.length := List.length_pos_iff.mpr hn0
    have lts2 := paired_len oa2
    have elen : ((ts2.map V.ref).length : Int) = (G.length : Int) := by rw [List.length_map, lts2]
    refine ⟨_, rfl, .ref D, rfl, D, _, rfl, .inl (SqL.of hD2), _, _, _, rfl, c, 9, _, rfl, rfl, congrArg V.int elen, by decide, by omega, fun H6 s6 => ?_⟩
    have st3 := st2.same s6
    have b9 := draw_nn c 9 (G.length : Int) (by omega)
    generalize draw c 9 (G.length : Int) = z9 at b9
    obtain ⟨i, rfl⟩ : ∃ i : Nat, z9 = (i : Int) := ⟨z9.toNat, by omega⟩
    have hi : i < G.length := by omega
    clear st2 hD2 oa2 dn2 lts2 s6 elen b9
    -- one fewer
    refine ⟨fun σ' H' => ∃ G', σ' = [some (.ref a), some (.int c), some (.int (1 + d)), none, some (.ref D), some (.int w), some (.int (i : Nat)), none, none, none] ∧ GSt K H H' D G' ∧ (w ≠ 1 → i < G'.length) ∧ G'.length ≤ 63 ∧ (∀ g ∈ G', g.length ≤ 4), ?_, ?_⟩
    · refine ⟨_, rfl, rfl, _, rfl, ite2 (fun e => ?_) (fun _ => ⟨G, rfl, st3, fun _ => hi, zG, zg⟩)⟩
      have ew := V.int.inj (of_decide_eq_true e)
      obtain ⟨ts3, hD3, oa3, dn3⟩ := st3.gs
      have lts3 := paired_len oa3
      refine ⟨.ref D, rfl, .inl ⟨rfl, _, SqL.of hD3⟩, _, rfl, D, _, _, i, .ref (ts3[i]'(by omega)), rfl, rfl, hD3, by omega, by omega, ?_, ?_, ?_⟩
      · rw [List.length_map]
        exact seqIndex_of (by omega) (by omega)
      · rw [List.getElem?_map, List.getElem?_eq_getElem (by omega)]
        rfl
      · rw [map_erase]
        refine ⟨G.eraseIdx i, rfl, st3.put fD (objs_erase i oa3) (fun z => dn3 (List.mem_of_mem_eraseIdx z)) ?_ (fun g hg' => st3.zg g (List.mem_of_mem_eraseIdx hg')), fun h => absurd ew h, ?_, fun g hg' => zg g (List.mem_of_mem_eraseIdx hg')⟩
        · rw [List.length_eraseIdx]; split <;> omega
        · rw [List.length_eraseIdx]; split <;> omega
    clear st3
    rintro σ' H7 ⟨G1, rfl, st4, hi1, zG1, zg1⟩
    -- a group bent
    refine ⟨fun σ' H' => ∃ G', σ' = [some (.ref a), some (.int c), some (.int (1 + d)), none, some (.ref D), some (.int w), some (.int (i : Nat)), none, none, none] ∧ GSt K H H' D G' ∧ (w ≠ 1 → i < G'.length) ∧ G'.length ≤ 63, ?_, ?_⟩
    · refine ⟨_, rfl, rfl, _, rfl, ite2 (fun e => ?_) (fun _ => ⟨G1, rfl, st4, hi1, zG1⟩)⟩
      have ew := V.int.inj (of_decide_eq_true e)
      have hi' := hi1 (by omega)
      obtain ⟨ts3, hD3, oa3, dn3⟩ := st4.gs
      have lts3 := paired_len oa3
      obtain ⟨t, et, ht⟩ := oa3.get hi'
      have hat : (ts3.map V.ref)[i]? = some (.ref t) := by rw [List.getElem?_map, et]; rfl
      have hzi := zg1 _ (List.getElem_mem hi')
      refine ⟨.ref D, rfl, _, rfl, D, _, _, .ref t, rfl, rfl, SqL.of hD3, at_of (j := i) rfl hat, _, rfl, _, _, rfl, rfl, ⟨by decide, by decide⟩, _, _, rfl, t, G1[i], _, rfl, SqL.of ht, by omega, rfl, fun H8 l F s8 nl hl zF => ?_⟩
      have st5 := st4.same s8
      refine ⟨.ref D, rfl, _, rfl, D, _, _, i, rfl, rfl, s8 _ _ hD3, ix_at rfl (by rw [List.length_map]; omega), ?_⟩
      rw [map_set_ref]
      have Dl : D ≠ l := ne_of_none hD3 nl
      refine ⟨G1.set i F, rfl, st5.put fD (objs_set (o := oL) hl i (oa3.same s8)) (fun z => ?_) ?_ ?_, fun h => ?_, ?_⟩
      · rcases List.mem_or_eq_of_mem_set z with z | z
        · exact dn3 z
        · exact Dl z
      · rw [List.length_set]; omega
      · intro g hg'
        rcases List.mem_or_eq_of_mem_set hg' with z | z
        · have := zg1 g z
          omega
        · rw [z]; omega
      · rw [List.length_set]; exact hi'
      · rw [List.length_set]; exact zG1
    clear st4 hi1 zG1 zg1
    rintro σ' H8 ⟨G2, rfl, st5, hi2, zG2⟩
    -- a group twice
    refine ⟨_, rfl, rfl, _, rfl, ite2 (fun e => ?_) (fun _ => ⟨_, G2, rfl, st5⟩)⟩
    have ew := V.int.inj (of_decide_eq_true e)
    have hi' := hi2 (by omega)
    obtain ⟨ts3, hD3, oa3, dn3⟩ := st5.gs
    have lts3 := paired_len oa3
    obtain ⟨t, et, ht⟩ := oa3.get hi'
    have hat : (ts3.map V.ref)[i]? = some (.ref t) := by rw [List.getElem?_map, et]; rfl
    refine ⟨.ref D, rfl, .inl ⟨rfl, _, SqL.of hD3⟩, .ref D, rfl, _, rfl, D, _, _, .ref t, rfl, rfl, SqL.of hD3, at_of (j := i) rfl hat, t, LI G2[i], rfl, .inl (SqL.of ht), fun l nl => ?_⟩
    have g1 := same_upd (o := .lst (LI G2[i])) nl
    have Dl : D ≠ l := ne_of_none hD3 nl
    refine ⟨D, _, .ref l, rfl, rfl, g1 _ _ hD3, sz_lt (by rw [List.length_map]; omega), ?_⟩
    have em : ts3.map V.ref ++ [.ref l] = (ts3 ++ [l]).map V.ref := by simp
    rw [em]
    refine ⟨_, G2 ++ [G2[i]], rfl, (st5.same g1).put fD (ObjsAt.snoc (o := oL) (x := G2[i]) upd_same (oa3.same g1)) (fun z => ?_) ?_ ?_⟩
    · rcases List.mem_append.mp z with z | z
      · exact dn3 z
      · exact Dl (List.mem_singleton.mp z)
    · rw [List.length_append]
      show _ + 1 ≤ _
      omega
    · intro g hg'
      rcases List.mem_append.mp hg' with z | z
      · exact st5.zg g z
      · rw [List.mem_singleton.mp z]
        exact st5.zg _ (List.getElem_mem hi')
  clear st1 zG zg
  rintro σ' H6 ⟨y6, G1, rfl, st1⟩
  obtain ⟨s6, ⟨ts, hD6, oa6, dn6⟩, zG, zg⟩ := st1
  have lts := paired_len oa6
  have zF : G1.flatten.length ≤ 400 := by
    have := flat_le zg
    omega
  -- an answer of lists that are changed behind
  refine ⟨.ref D, rfl, D, rfl, ⟨_, SqL.of hD6⟩, fun Hd nHd => ?_⟩
  refine lc_fresh (L := G1) oL (by rw [← lts, ← List.length_map (f := V.ref)]; exact walk_list) nHd (by omega) (fun _ _ s g => s.seq g) (SqL.of hD6) ?_ (fun H7 hs s7 ndh fhs Dhs oah hHd => ?_)
  · rintro i hi x H5 H6' s5 _ ⟨rfl, hx⟩ Z Zn z1
    obtain ⟨g, rfl, hg5, _⟩ := objs_at (oa6.same s5) hi hx
    exact ⟨rfl, .ref g, rfl, g, LI G1[i], rfl, .inl (SqL.of hg5), fun l nl => z1 l _ nl upd_same (same_upd nl)⟩
  refine ⟨_, rfl, fun o1 dx1 no1 ndx1 ne1 => ?_⟩
  have t1 : Same H7 (upd (upd H7 dx1 (.own o1)) o1 (.ins (He.ga K "Grouped") dx1 [])) := sm_put (same_upd ndx1) no1
  refine ⟨_, _, rfl, o1, dx1, Hd, hs, G1, rfl, rfl, upd_same, SqL.of (t1 _ _ hHd), oah.same t1, by omega, fun H9 gl2 us sX ngl nus glu ndu ho1 hgl2 oau => ⟨rfl, ?_⟩⟩
  have s79 : Same H7 H9 := fun b u e => sX b u (ne_of_none e no1) (t1 b u e)
  have s69 := s7.trans s79
  have ngl7 : H7 gl2 = none := t1.free ngl
  have nus7 : ∀ t ∈ us, H7 t = none := fun t ht => t1.free (nus t ht)
  have inH7 : ∀ t ∈ hs, ∃ u, H7 t = some u := fun t ht => by
    obtain ⟨x, _, hx⟩ := oah.mem t ht
    exact ⟨_, hx⟩
  have off7 : ∀ b, H7 b = none → b ∉ hs ∧ b ≠ Hd := fun b hb => ⟨fun z => (by obtain ⟨u, hu⟩ := inH7 b z; rw [hb] at hu; cases hu), fun z => (by rw [z, hHd] at hb; cases hb)⟩
  have off6 : ∀ b o, H6 b = some o → b ∉ hs ∧ b ≠ Hd := fun b o hb => ⟨fun z => (by rw [fhs b z] at hb; cases hb), fun z => (by rw [z, nHd] at hb; cases hb)⟩
  have hHd9 := s79 _ _ hHd
  refine ⟨.ref Hd, rfl, Hd, rfl, ⟨_, SqL.of hHd9⟩, ?_⟩
  refine for_it (walk_list (xs := hs.map V.ref)) (fun i σ H' => ∃ y3, σ = [some (.ref a), some (.int c), some (.int (1 + d)), y3, some (.ref D), some (.int w), y6, some (.ref Hd), some (.ref o1), none] ∧ Sm K H H' ∧ (∀ b o, b ∉ hs → H9 b = some o → H' b = some o) ∧ ∀ t ∈ hs, ∃ F, H' t = some (oL F) ∧ F.length ≤ 5 + i)
    ⟨_, rfl, s6.trans (sm_of s69), fun b o _ e => e, fun t ht => ?_⟩ (fun i σ H' _ ⟨_, _, _, k, _⟩ => SqL.of (k _ _ Dhs hHd9)) ?_ ?_
  · obtain ⟨x, hx1, hx⟩ := (oah.same s79).mem t ht
    exact ⟨x, hx, by have := zg x hx1; omega⟩
  · rintro i x σ _ H10 hi ⟨y3, rfl, s10, k10, f10⟩ ⟨rfl, hx⟩
    obtain ⟨hi2, rfl⟩ := refs_inv hx
    have hm := List.getElem_mem hi2
    obtain ⟨F, hF, zF'⟩ := f10 _ hm
    have fr : Fr H hs[i] := s6.fr (Fr.of (fhs _ hm))
    have lhs := paired_len oah
    rw [List.length_map] at hi
    refine ⟨.ref hs[i], rfl, .inl ⟨rfl, _, SqL.of hF⟩, hs[i], _, .int 0, rfl, rfl, hF, sz_lt (by rw [LI, List.length_map]; omega), ?_⟩
    rw [li_snoc]
    refine ⟨_, rfl, sm_mut s10 fr hF, fun b o nb e => by rw [upd_ne (fun z => nb (by rw [z]; exact hm))]; exact k10 b o nb e, fun t ht => ?_⟩
    by_cases e : t = hs[i]
    · rw [e, upd_same]
      exact ⟨_, rfl, by rw [List.length_append]; show _ + 1 ≤ _; omega⟩
    · rw [upd_ne e]
      obtain ⟨F', h1, h2⟩ := f10 t ht
      exact ⟨F', h1, by omega⟩
  rintro σ H10 ⟨y3, rfl, s10, k10, _⟩
  have hHd10 := k10 _ _ Dhs hHd9
  have lhs := paired_len oah
  refine ⟨.ref Hd, rfl, .inl ⟨rfl, _, SqL.of hHd10⟩, Nat.zero_le _, fun e ne => ?_⟩
  have ge := same_upd (o := .lst []) ne
  refine ⟨Hd, _, .ref e, rfl, rfl, ge _ _ hHd10, sz_lt (by rw [List.length_map]; omega), ?_⟩
  have fHd : Fr H Hd := s6.fr (Fr.of nHd)
  have s11 : Sm K H (upd (upd H10 e (.lst [])) Hd (.lst (hs.map V.ref ++ [.ref e]))) := sm_mut (s10.trans (sm_of ge)) fHd (ge _ _ hHd10)
  have keep : ∀ b o, b ∉ hs ∧ b ≠ Hd → H9 b = some o → upd (upd H10 e (.lst [])) Hd (.lst (hs.map V.ref ++ [.ref e])) b = some o := fun b o nb hb => by
    rw [upd_ne nb.2]
    exact ge _ _ (k10 b o nb.1 hb)
  generalize upd (upd H10 e (.lst [])) Hd (.lst (hs.map V.ref ++ [.ref e])) = H11 at s11 keep
  have ho11 := keep _ _ (off7 _ no1) ho1
  have hgl11 := keep _ _ (off7 _ ngl7) hgl2
  have oau11 : ObjsAt H11 oL us G1 := objs_keep (fun t ht u hu => keep _ _ (off7 _ (nus7 t ht)) hu) oau
  have hD11 := keep _ _ (off6 _ _ hD6) (s69 _ _ hD6)
  have oa11 : ObjsAt H11 oL ts G1 := objs_keep (fun t ht u hu => by
    obtain ⟨x, _, hx⟩ := oa6.mem t ht
    exact keep _ _ (off6 _ _ hx) hu) (oa6.same s69)
  refine ⟨.ref o1, rfl, o1, _, dx1, _, .ref gl2, rfl, ho11, cls_Grouped T, na_Grouped_groups T, rfl, .ref D, rfl, dG G1, dG G1, dp_lg (SqL.of hgl11) oau11, dp_lg (SqL.of hD11) oa11, shaped_dG _, shaped_dG _, false, by rw [eqv_dG, decide_eq_true rfl]; rfl, iteF ?_⟩
  refine ⟨_, rfl, _, rfl, _, _, rfl, rfl, by show 2 ≤ sizeLine; decide, fun u nu => ?_⟩
  refine ⟨u, rfl, ⟨_, SqT.of upd_same⟩, ?_⟩
  have s1112 := same_upd (o := .tup [.int (1 + d), .int (1 + d + 1)]) nu
  have hu12 := upd_same (H := H11) (a := u) (o := .tup [.int (1 + d), .int (1 + d + 1)])
  generalize upd H11 u (.tup [.int (1 + d), .int (1 + d + 1)]) = H12 at s1112 hu12
  refine for_it (walk_tup (xs := [.int (1 + d), .int (1 + d + 1)])) (fun i σ H' => ∃ y9, σ = [some (.ref a), some (.int c), some (.int (1 + d)), y3, some (.ref D), some (.int w), y6, some (.ref Hd), some (.ref o1), y9] ∧ Same H12 H')
    ⟨_, rfl, Same.refl _⟩ (fun i σ H' _ ⟨_, _, s⟩ => SqT.of (s _ _ hu12)) ?_ ?_
  · rintro i x σ _ H13 hi ⟨y9, rfl, s13⟩ ⟨rfl, hx⟩
    obtain ⟨e, rfl⟩ : ∃ e : Int, x = .int e := by
      match i, hi, hx with
      | 0, _, hx => exact ⟨_, (Option.some.inj hx).symm⟩
      | 1, _, hx => exact ⟨_, (Option.some.inj hx).symm⟩
    clear hx
    have r13 := s1112.trans s13
    have z5 : ∀ g ∈ G1, g.length ≤ 4000 := fun g hg' => by have := zg g hg'; omega
    refine ⟨.ref o1, rfl, o1, dx1, _, rfl, r13 _ _ ho11, rfl, .ref a, rfl, _, rfl, _, _, _, rfl, o1, dx1, gl2, us, G1, a, L, e, rfl, rfl, rfl, r13 _ _ ho11, r13 _ _ hgl11, oau11.same r13, (s11.trans (sm_of r13)).seq hS, by omega, by omega, by omega, z5, fun H14 s14 => ?_⟩
    have r14 := r13.trans s14
    refine ⟨.ref a, rfl, .ref D, rfl, _, rfl, _, _, _, rfl, a, L, D, ts, G1, e, rfl, (s11.trans (sm_of r14)).seq hS, by omega, rfl, r14 _ _ hD11, oa11.same r14, rfl, by omega, by omega, z5, fun H15 s15 => ?_⟩
    exact ⟨_, _, rfl, _, rfl, rfl, true, rfl, iteF ⟨_, rfl, (s13.trans s14).trans s15⟩⟩
  · rintro σ H13 ⟨y9, rfl, s13⟩
    exact q _ (s11.trans (sm_of (s1112.trans s13)))
def sp_Paired_init (K : PySem.W.Frag) : Sp := sp3 fun x y z H Q _ => ∃ a dx pp lf xs ys, x = .ref a ∧ y = .ref pp ∧ z = .ref lf ∧ H a = some (.ins (He.ga K "Paired") dx []) ∧ SqL K H pp xs ∧ SqL K H lf ys ∧
  ∀ H' pl ll, SameX a H H' → H pl = none → H ll = none → pl ≠ ll → H' a = some (.ins (He.ga K "Paired") dx [("pairs", .ref pl), ("left", .ref ll)]) → H' pl = some (.lst xs) → H' ll = some (.lst ys) → Q .non H'
theorem m_Paired (T : Tp K mg base) : MakOk P w K mg base CX0 1 "Paired" ["self", "pairs", "left"] (sp_Paired_init K) := by
  obtain ⟨fd, F⟩ := d_Paired_init T
  refine ⟨_, fd, F.ok sc_Paired_init len3 (fun cdv A outer s H vs Q E hr h => ?_), (F.bindsN fun _ _ _ _ _ _ us hl => match us, hl with | [_, _, _], _ => rfl), mkr_Paired T, g_Paired T⟩
  refine ⟨_, PSs.nox (pss_cons (ps_fld (pv 0) (pe_callTy (zlist K) (by rfl) (n_list T) (by decide +kernel) (pa_cons (pv 1) pa_nil)) (by rfl))
      (pss_one (ps_fld (pv 0) (pe_callTy (zlist K) (by rfl) (n_list T) (by decide +kernel) (pa_cons (pv 2) pa_nil)) (by rfl)))), ?_⟩
  obtain ⟨_, _, _, rfl, a, dx, pp, lf, xs, ys, rfl, rfl, rfl, ha, hp, hl, q⟩ := h
  refine ⟨.ref pp, rfl, pp, xs, rfl, .inl hp, fun pl np => ?_⟩
  have apl : a ≠ pl := ne_of_none ha np
  have ha1 : upd H pl (.lst xs) a = some (.ins (He.ga K "Paired") dx []) := by rw [upd_ne apl]; exact ha
  refine ⟨_, rfl, a, _, dx, [], rfl, ha1, cls_Paired T, na_Paired_pairs T, by decide, ?_⟩
  have s1 : SameX a H (upd (upd H pl (.lst xs)) a (.ins (He.ga K "Paired") dx (putF "pairs" (.ref pl) []))) := fun b o nb e => by rw [upd_ne nb, upd_ne (ne_of_none e np)]; exact e
  refine ⟨.ref lf, rfl, lf, ys, rfl, .inl (s1.seq ha hl), fun ll nl => ?_⟩
  have all : a ≠ ll := fun z => by rw [← z, upd_same] at nl; cases nl
  have pll : pl ≠ ll := fun z => by rw [← z, upd_ne apl.symm, upd_same] at nl; cases nl
  have nl0 : H ll = none := by rw [upd_ne all.symm, upd_ne pll.symm] at nl; exact nl
  refine ⟨_, rfl, a, _, dx, [("pairs", .ref pl)], rfl, by rw [upd_ne all, upd_same]; rfl, cls_Paired T, na_Paired_left T, (show (1 : Nat) < 1000 by decide), ?_⟩
  refine q _ pl ll ?_ np nl0 pll (by rw [upd_same]; rfl) ?_ ?_
  · intro b o nb e
    rw [upd_ne nb, upd_ne (ne_of_none e nl0)]
    exact s1 b o nb e
  · rw [upd_ne apl.symm, upd_ne pll, upd_ne apl.symm, upd_same]
  · rw [upd_ne all.symm, upd_same]
def sp_paired (K : PySem.W.Frag) : Sp := sp1 fun x H Q _ => ∃ a L, x = .ref a ∧ SqL K H a (LI L) ∧ Good L ∧ TabK K H ∧
  ∀ H' o dx pl ll ts PS LF, Sm K H H' → Fr H o → Fr H pl → Fr H ll → pl ≠ ll → H' o = some (.ins (He.ga K "Paired") dx [("pairs", .ref pl), ("left", .ref ll)]) → H' pl = some (.lst (ts.map V.ref)) → TupsAt K H' ts PS → H' ll = some (.lst (LI LF)) →
    PairOK L PS LF → PS.length ≤ L.length → Q (.ref o) H'
theorem k_paired (T : Tp K mg base) : DefOk P w K mg base CX0 4 "paired" ["heap"] (sp_paired K) := by
  obtain ⟨fd, F⟩ := d_paired T
  refine ⟨fd, F.ok sc_paired len1 (fun cdv A outer s H vs Q E hr h => ?_), (F.bindsN fun _ _ _ _ _ _ us hl => match us, hl with | [_], _ => rfl), F.kp, g_paired T⟩
  refine ⟨_, PSs.nox (pss_cons (ps_expr (pe_fn (k_check_heap T) (hr.mono (by decide)) (by rfl) pass0 (pa_cons (pv 0) pa_nil)))
      (pss_cons (ps_set (i := 1) sc_paired.nd rfl (Or.inr rfl) (pe_fn (k_by_count T) (hr.mono (by decide)) (by rfl) pass0 (pa_cons (pv 0) pa_nil)))
      (Evl.pss_cut (ps_set (i := 2) sc_paired.nd rfl (Or.inl rfl) (pe_ifExp (pt_cmpR op_gt (pe_callB (zlen K) (by rfl) (n_len T) (by decide +kernel) (pa_cons (pv 1) pa_nil)) pe_int (nomark _)) (pe_bm PySem.F.plainAttrs_list PySem.F.slot_list_count PySem.F.type_list_count mt_lcount (pv 1) (pa_cons (pe_ix (zixL K) (pv 1) pe_int (fun _ _ => rfl)) pa_nil)) pe_int))
      (pss_cons (ps_set (i := 3) sc_paired.nd rfl (Or.inl rfl) (pe_callB (call_min2 rfl) (by rfl) (n_min T) (by decide +kernel) (pa_cons (pe_op op_fdiv (pe_callB (zlen K) (by rfl) (n_len T) (by decide +kernel) (pa_cons (pv 1) pa_nil)) pe_int) (pa_cons (pe_op op_sub (pe_callB (zlen K) (by rfl) (n_len T) (by decide +kernel) (pa_cons (pv 1) pa_nil)) (pv 2)) pa_nil))))
      (pss_cons (ps_if (pt_cmpR op_ge (pe_op op_mul pe_int (pv 2)) (pe_callB (zlen K) (by rfl) (n_len T) (by decide +kernel) (pa_cons (pv 1) pa_nil)) (nomark _)) (pss_one (ps_ret (zmk K rfl (m_Paired T) (hr.mono (by decide)) (by rfl) pass0 (pa_cons (pe_lc (own := [("kind", 6)]) (g := gName 6) (tt := tYes) (by rfl) sc_paired.nd (pi_list (pe_slice (zslL K) (pv 1) (po_some (pv 2)) po_none)) (blkOk_by (own := [("kind", 6)]) (N := N_paired) (sc := defScope s_paired) (by decide +kernel)) (fun _ _ _ _ _ => pg_name (i := 6) sc_paired.nd rfl (Or.inl rfl)) (fun _ _ _ _ _ => pts_nil) (fun _ _ _ _ _ => (pe_tup (pa_cons (pe_ix (zixL K) (pv 1) pe_int (fun _ _ => rfl)) (pa_cons (pv 6) pa_nil))))) (pa_cons (pe_slice (zslL K) (pv 1) po_none (po_some (pe_op op_sub (pv 2) (pv 3)))) pa_nil))))) pss_nil)
      (pss_cons (ps_set (i := 4) sc_paired.nd rfl (Or.inr rfl) (pe_op op_fdiv (pe_callB (zlen K) (by rfl) (n_len T) (by decide +kernel) (pa_cons (pv 1) pa_nil)) pe_int))
      (pss_one (ps_ret (zmk K rfl (m_Paired T) (hr.mono (by decide)) (by rfl) pass0 (pa_cons (pe_lc (own := [("k", 5)]) (g := gName 5) (tt := tYes) (by rfl) sc_paired.nd (pi_range1 (by rfl) (n_range T) (pa_cons (pv 4) pa_nil)) (blkOk_by (own := [("k", 5)]) (N := N_paired) (sc := defScope s_paired) (by decide +kernel)) (fun _ _ _ _ _ => pg_name (i := 5) sc_paired.nd rfl (Or.inl rfl)) (fun _ _ _ _ _ => pts_nil) (fun _ _ _ _ _ => (pe_tup (pa_cons (pe_ix (zixL K) (pv 1) (pv 5) (fun _ _ => rfl)) (pa_cons (pe_ix (zixL K) (pv 1) (pe_op op_add (pv 5) (pv 4)) (fun _ _ => rfl)) pa_nil))))) (pa_cons (pe_slice (zslL K) (pv 1) (po_some (pe_op op_mul pe_int (pv 4))) po_none) pa_nil))))))))))), ?_⟩
  obtain ⟨_, rfl, a, L, rfl, hS, hg, hT, q⟩ := h
  have hlen := hg.len
  refine ⟨.ref a, rfl, _, rfl, a, L, rfl, hS, hg, fun H1 s1 => ?_⟩
  refine ⟨.ref a, rfl, _, rfl, a, L, rfl, s1.seq hS, hg.len, hT.ext s1, fun H2 t s2 ft ht => ?_⟩
  have s02 : Sm K H H2 := (sm_of s1).trans s2
  have hB : (byc L).length = L.length := byc_len L
  have hLB : (LI (byc L)).length = L.length := by rw [LI, List.length_map, hB]
  refine ⟨fun σ' H' => σ' = [some (.ref a), some (.ref t), some (.int (mostI L)), none, none, none, none] ∧ H' = H2, ?_, ?_⟩
  · refine ⟨.ref t, rfl, t, _, rfl, .inl (SqL.of ht), _, _, rfl, rfl, _, rfl, ite2 (fun e => ?_) (fun e => ?_)⟩
    · have e' := of_decide_eq_true e
      rw [hLB] at e'
      have hne : L ≠ [] := fun z => by rw [z] at e'; exact absurd e' (by decide)
      have h0 : 0 < (byc L).length := by omega
      have eh : (byc L).headD 0 = (byc L)[0] := headD_get h0
      have hc := byc_head_count L hne
      rw [eh] at hc
      refine ⟨.ref t, rfl, .inl ⟨rfl, _, SqL.of ht⟩, .ref t, rfl, t, _, 0, .int (byc L)[0], rfl, rfl, SqL.of ht, at_of (j := 0) rfl (li_get h0), t, byc L, _, rfl, rfl, SqL.of ht, ?_, rfl⟩
      rw [hc]
      rfl
    · have e' : L.length = 0 := by
        have : ¬ (0 : Int) < ((LI (byc L)).length : Int) := fun z => e (decide_eq_true z)
        rw [hLB] at this
        omega
      have e2 := List.length_eq_zero_iff.mp e'
      subst e2
      rw [most_nil]
      exact ⟨rfl, rfl⟩
  rintro σ' H' ⟨rfl, eH⟩
  obtain rfl := eH.symm
  obtain ⟨m, hm⟩ : ∃ m : Nat, (m : Int) = mostI L := ⟨(mostI L).toNat, by have := most_nn L; omega⟩
  have hmL := most_le_len L
  rw [← hm]
  refine ⟨.ref t, rfl, t, _, rfl, .inl (SqL.of ht), _, _, rfl, rfl, ⟨by decide, by decide⟩, .ref t, rfl, t, _, rfl, .inl (SqL.of ht), _, rfl, _, _, rfl, rfl, _, _, rfl, ?_⟩
  rw [hLB]
  have fin : ∀ (H3 : Hp) (D u : Addr) (ts : List Addr) (PS : Tab) (LF : List Int), Sm K H H3 → H3 D = some (.lst (ts.map V.ref)) → TupsAt K H3 ts PS → H3 u = some (.lst (LI LF)) → PairOK L PS LF → PS.length ≤ L.length →
      ∀ x dx, H3 x = none → H3 dx = none → dx ≠ x → ∀ E', sp_Paired_init K [.ref x, .ref D, .ref u] (upd (upd H3 dx (.own x)) x (.ins (He.ga K "Paired") dx [])) (fun v H2 => v = .non ∧ Q (.ref x) H2) E' := by
    intro H3 D u ts PS LF s3 hD hts hu pk zP x dx nx ndx ne E'
    have s4 : Same H3 (upd (upd H3 dx (.own x)) x (.ins (He.ga K "Paired") dx [])) := sm_put (same_upd ndx) nx
    refine ⟨_, _, _, rfl, x, dx, D, u, _, _, rfl, rfl, rfl, upd_same, SqL.of (s4 _ _ hD), SqL.of (s4 _ _ hu), fun H' pl ll sX np nl pll hx hp hl => ⟨rfl, ?_⟩⟩
    have s5 : Same H3 H' := fun b o e => sX b o (ne_of_none e nx) (s4 b o e)
    have s6 : Sm K H H' := s3.trans (sm_of s5)
    exact q H' x dx pl ll ts PS LF s6 (s3.fr (Fr.of nx)) (s3.fr (Fr.of (s4.free np))) (s3.fr (Fr.of (s4.free nl))) pll hx hp (hts.same s5) hl pk zP
  refine ⟨_, rfl, _, _, rfl, rfl, .inl ⟨by decide, by decide⟩, .ref t, rfl, t, _, rfl, .inl (SqL.of ht), _, _, rfl, rfl, _, rfl, ite2 (fun e => ?_) (fun e => ?_)⟩
  · have e' := of_decide_eq_true e
    rw [hLB] at e'
    have hmn : L.length ≤ 2 * m := by omega
    have pk := pair_much rfl hm hmn
    -- the pairs
    refine ⟨.ref t, rfl, _, rfl, _, rfl, t, _, rfl, SqL.of ht, fun d nd => ?_⟩
    rw [cut_from, li_drop]
    have s3 := same_upd (o := .lst (LI ((byc L).drop m))) nd
    refine ⟨d, rfl, ⟨_, SqL.of upd_same⟩, fun D hD => ?_⟩
    refine lc_fresh (L := (byc L).drop m) (fun z => .tup [.int ((byc L).headD 0), .int z]) (by rw [← List.length_map (f := V.int)]; exact walk_list) hD (by rw [List.length_drop]; omega) (fun _ _ s g => s.seq g) (SqL.of upd_same) ?_ (fun H4 ts s4 nts fts Dts oa hDl => ?_)
    · rintro i hi x H5 H6 s5 _ ⟨rfl, hx⟩ Z Zn z1
      rw [li_get hi] at hx
      obtain rfl := Option.some.inj hx
      have h0 : 0 < (byc L).length := by
        rw [List.length_drop] at hi
        omega
      have ht6 := s5 _ _ (s3 _ _ ht)
      refine ⟨rfl, .ref t, rfl, t, LI (byc L), 0, .int ((byc L).headD 0), rfl, rfl, SqL.of ht6, at_of (j := 0) rfl (by rw [headD_get h0]; exact li_get h0), _, rfl, by show 2 ≤ sizeLine; decide, fun u nu => z1 u _ nu upd_same (same_upd nu)⟩
    · have s24 : Same H2 H4 := s3.trans s4
      refine ⟨.ref t, rfl, _, rfl, _, rfl, _, _, rfl, rfl, _, rfl, t, _, rfl, SqL.of (s24 _ _ ht), fun u nu => ?_⟩
      have ev : (m : Int) - (if (L.length : Int) - m < (L.length : Int) / 2 then (L.length : Int) - m else (L.length : Int) / 2) = ((m - (L.length - m) : Nat) : Int) := by
        split <;> omega
      intro x dx nx ndx ne
      have nx' := nx
      rw [ev, cut_to, li_take]
      refine fin _ D u ts _ _ ((s02.trans (sm_of s24)).trans (sm_of (same_upd nu))) (same_upd nu _ _ hDl) ((tups_map2 (f := fun z => ((byc L).headD 0, z)) oa).same (same_upd nu)) upd_same pk (by rw [List.length_map, List.length_drop]; omega) x dx ?_ ?_ ne _
      · rw [ev, cut_to, li_take] at nx; exact nx
      · rw [ev, cut_to, li_take] at ndx; exact ndx
  · have e' : ¬ (L.length : Int) ≤ 2 * (m : Int) := fun z => e (decide_eq_true (by rw [hLB]; exact z))
    have pk := pair_few (L := L) rfl (by omega)
    refine ⟨.ref t, rfl, t, _, rfl, .inl (SqL.of ht), _, _, rfl, rfl, ⟨by decide, by decide⟩, ?_⟩
    rw [hLB]
    have eh : (L.length : Int) / 2 = ((L.length / 2 : Nat) : Int) := by omega
    rw [eh]
    refine ⟨_, rfl, _, rfl, by omega, by omega, fun D hD => ?_⟩
    have ez : ((byc L).take (L.length / 2)).zip (((byc L).drop (L.length / 2)).take (L.length / 2)) = (List.range (L.length / 2)).map fun i => ((byc L).getD i 0, (byc L).getD (i + L.length / 2) 0) := by
      refine List.ext_getElem ?_ fun i h1 h2 => ?_
      · rw [List.length_zip, List.length_take, List.length_take, List.length_drop, List.length_map, List.length_range]
        omega
      · rw [List.length_map, List.length_range] at h2
        rw [List.getElem_zip, List.getElem_take, List.getElem_take, List.getElem_drop, List.getElem_map, List.getElem_range, List.getD_eq_getElem?_getD, List.getD_eq_getElem?_getD, List.getElem?_eq_getElem (show i < (byc L).length by omega), List.getElem?_eq_getElem (show i + L.length / 2 < (byc L).length by omega)]
        simp [Nat.add_comm]
    rw [ez] at pk
    refine lc_fresh (L := List.range (L.length / 2)) (fun i => .tup [.int ((byc L).getD i 0), .int ((byc L).getD (i + L.length / 2) 0)]) (G := fun _ => True) (Y := fun i H x H' => H' = H ∧ x = .int (0 + (i : Nat))) ?_ hD (by rw [List.length_range]; omega) (fun _ _ _ _ => trivial) trivial ?_ (fun H4 ts s4 nts fts Dts oa hDl => ?_)
    · rw [List.length_range]
      exact walk_range
    · rintro i hi x H5 H6 s5 _ ⟨rfl, rfl⟩ Z Zn z1
      rw [List.length_range] at hi
      have ht6 := s5 _ _ ht
      have g1 : (byc L).getD i 0 = (byc L)[i]'(by omega) := by rw [List.getD_eq_getElem?_getD, List.getElem?_eq_getElem (show i < (byc L).length by omega)]; rfl
      have g2 : (byc L).getD (i + L.length / 2) 0 = (byc L)[i + L.length / 2]'(by omega) := by rw [List.getD_eq_getElem?_getD, List.getElem?_eq_getElem (show i + L.length / 2 < (byc L).length by omega)]; rfl
      rw [List.getElem_range] at z1
      refine ⟨rfl, .ref t, rfl, _, rfl, t, LI (byc L), _, .int ((byc L).getD i 0), rfl, rfl, SqL.of ht6, at_of (j := i) (by omega) (by rw [g1]; exact li_get _), ?_⟩
      refine ⟨.ref t, rfl, _, rfl, _, rfl, _, _, rfl, rfl, t, LI (byc L), _, .int ((byc L).getD (i + L.length / 2) 0), rfl, rfl, SqL.of ht6, at_of (j := i + L.length / 2) (by omega) (by rw [g2]; exact li_get _), by show 2 ≤ sizeLine; decide, fun u nu => z1 u _ nu upd_same (same_upd nu)⟩
    · refine ⟨.ref t, rfl, _, rfl, _, _, rfl, rfl, .inl ⟨by decide, by decide⟩, _, rfl, t, _, rfl, SqL.of (s4 _ _ ht), fun u nu => ?_⟩
      have ev : (2 : Int) * ((L.length : Int) / 2) = ((2 * (L.length / 2) : Nat) : Int) := by omega
      intro x dx nx ndx ne
      rw [ev, cut_from, li_drop] at nx ndx ⊢
      exact fin _ D u ts _ _ ((s02.trans (sm_of s4)).trans (sm_of (same_upd nu))) (same_upd nu _ _ hDl) ((tups_map2 (f := fun i => ((byc L).getD i 0, (byc L).getD (i + L.length / 2) 0)) oa).same (same_upd nu)) upd_same pk (by rw [List.length_map, List.length_range]; omega) x dx nx ndx ne _
def sp__law_paired (K : PySem.W.Frag) : Sp := sp3 fun x y z H Q _ => ∃ a L P ts PS l LF, x = .ref a ∧ SqL K H a (LI L) ∧ y = .ref P ∧ H P = some (.lst (ts.map V.ref)) ∧ TupsAt K H ts PS ∧ PS.length ≤ 1000 ∧
  z = .ref l ∧ H l = some (.lst (LI LF)) ∧ LF.length ≤ 4000 ∧ ∀ H', Same H H' → Q (.bl (showsP PS LF L)) H'
theorem ne_any (PS : Tab) : PS.all (fun p => decide (p.1 ≠ p.2)) = !PS.any (fun p => decide (p.1 = p.2)) := by
  rw [List.not_any_eq_all_not]
  refine congrArg (PS.all ·) ?_
  funext p
  simp
theorem k__law_paired (T : Tp K mg base) : DefOk P w K mg base CX0 1 "_law_paired" ["_law_heap_here", "_law_pairs", "_law_left"] (sp__law_paired K) := by
  obtain ⟨fd, F⟩ := d__law_paired T
  refine ⟨fd, F.ok sc__law_paired len3 (fun cdv A outer s H vs Q E hr h => ?_), (F.bindsN fun _ _ _ _ _ _ us hl => match us, hl with | [_, _, _], _ => rfl), F.kp, g__law_paired T⟩
  refine ⟨_, PSs.nox (pss_cons (ps_set (i := 3) sc__law_paired.nd rfl (Or.inl rfl) (pe_callTy (zlist K) (by rfl) (n_list T) (by decide +kernel) (pa_cons (pv 2) pa_nil)))
      (pss_cons (ps_for PassesOwn.never rfl (pi_list (pv 1)) (pg_name (i := 4) sc__law_paired.nd rfl (Or.inl rfl))
        (pss_one (ps_expr (pe_bm PySem.F.plainAttrs_list PySem.F.slot_list_extend PySem.F.type_list_extend (zextT K) (pv 3) (pa_cons (pv 4) pa_nil)))))
      (pss_cons (ps_if (PW.pt (pw_or (pt_cmpR (zneD K hr.units) (pe_callB (zsorted K) (by rfl) (n_sorted T) (by decide +kernel) (pa_cons (pv 3) pa_nil)) (pe_callB (zsorted K) (by rfl) (n_sorted T) (by decide +kernel) (pa_cons (pv 0) pa_nil)) (nomark _)) (pw_or1 (pt_val (pe_callB (zany K) (by rfl) (n_any T) (by decide +kernel) (pa_cons (pe_lc (own := [("_law_pair", 4)]) (g := gName 4) (tt := tYes) (by rfl) sc__law_paired.nd (pi_list (pv 1)) (blkOk_by (own := [("_law_pair", 4)]) (N := N__law_paired) (sc := defScope s__law_paired) (by decide +kernel)) (fun _ _ _ _ _ => pg_name (i := 4) sc__law_paired.nd rfl (Or.inl rfl)) (fun _ _ _ _ _ => pts_nil) (fun _ _ _ _ _ => (pe_cmpR op_eq (pe_ix (zixT K) (pv 4) pe_int (fun _ _ => rfl)) (pe_ix (zixT K) (pv 4) pe_int (fun _ _ => rfl)) (nomark _)))) pa_nil)))))) (pss_one (ps_ret pe_bl)) pss_nil)
      (pss_one (ps_ret (pe_or (pe_cmpR op_lt (pe_callB (zlen K) (by rfl) (n_len T) (by decide +kernel) (pa_cons (pv 2) pa_nil)) pe_int (nomark _)) (pe_one (pe_and (pe_cmpR op_eq (pe_lenSetN K (by rfl) (n_len T) (by rfl) (n_set T) (pv 2)) pe_int (nomark _)) (pe_one (pe_callB (zall K) (by rfl) (n_all T) (by decide +kernel) (pa_cons (pe_lc (own := [("_law_pair", 4)]) (g := gName 4) (tt := tYes) (by rfl) sc__law_paired.nd (pi_list (pv 1)) (blkOk_by (own := [("_law_pair", 4)]) (N := N__law_paired) (sc := defScope s__law_paired) (by decide +kernel)) (fun _ _ _ _ _ => pg_name (i := 4) sc__law_paired.nd rfl (Or.inl rfl)) (fun _ _ _ _ _ => pts_nil) (fun _ _ _ _ _ => (pe_cmpR (zin K) (pe_ix (zixL K) (pv 2) pe_int (fun _ _ => rfl)) (pv 4) (by rfl)))) pa_nil))))))))))), ?_⟩
  obtain ⟨_, _, _, rfl, a, L, P, ts, PS, l, LF, rfl, hS, rfl, hP, hts, zP, rfl, hl, zL, q⟩ := h
  have lts := paired_len hts
  have zF := flatT_len PS
  refine ⟨.ref l, rfl, l, LI LF, rfl, .inl (SqL.of hl), fun g ng => ?_⟩
  have s0 : Same H (upd H g (.lst (LI LF))) := same_upd ng
  refine ⟨.ref P, rfl, P, rfl, ⟨_, SqL.of (s0 _ _ hP)⟩, ?_⟩
  refine for_it (walk_list (xs := ts.map V.ref)) (fun i σ H' => ∃ y4, σ = [some (.ref a), some (.ref P), some (.ref l), some (.ref g), y4] ∧ Same H H' ∧ H' g = some (.lst (LI (LF ++ flatT (PS.take i)))))
    ⟨_, rfl, s0, by rw [upd_same]; simp [flatT]⟩ (fun i σ H' _ ⟨_, _, s, _⟩ => SqL.of (s _ _ hP)) ?_ ?_
  · rintro i x σ _ H1 hi ⟨y4, rfl, s1, hg1⟩ ⟨rfl, hx⟩
    rw [List.length_map] at hi
    have hi' : i < PS.length := by omega
    obtain ⟨w, rfl, hw⟩ := tups_at (hts.same s1) hi' hx
    refine ⟨.ref g, rfl, .inl ⟨rfl, _, SqL.of hg1⟩, _, rfl, g, w, _, _, rfl, rfl, hg1, hw, sz_le ?_, _, rfl, sm_put s1 ng, ?_⟩
    · have h1 := flatT_len (PS.take i)
      rw [List.length_take] at h1
      rw [LI, List.length_map, List.length_append, h1]
      show _ + 2 ≤ _
      omega
    · rw [upd_same, List.take_add_one, List.getElem?_eq_getElem hi']
      show _ = some (HO.lst (LI (LF ++ flatT (_ ++ [_]))))
      rw [flatT_snoc, ← List.append_assoc, LI, LI, List.map_append (l₁ := LF ++ _)]
      rfl
  rintro σ H1 ⟨y4, rfl, s1, hg1⟩
  rw [List.length_map, lts, List.take_length] at hg1
  refine ⟨.ref g, rfl, g, LF ++ flatT PS, rfl, SqL.of hg1, fun ns p pr so np => ?_⟩
  have e1 := sorted_eq pr so
  subst e1
  have s2 := s1.trans (same_upd (o := .lst (LI (srt (LF ++ flatT PS)))) np)
  refine ⟨.ref a, rfl, a, L, rfl, s2.seq hS, fun ns p2 pr2 so2 np2 => ?_⟩
  have e2 := sorted_eq pr2 so2
  subst e2
  have s3 := s2.trans (same_upd (o := .lst (LI (srt L))) np2)
  refine ⟨dI _, dI _, dp_li (SqL.of (same_upd np2 _ _ upd_same)), dp_li (SqL.of upd_same), shaped_dI _, shaped_dI _, ?_⟩
  rw [eqv_dI]
  refine ⟨_, rfl, ?_⟩
  have hsh0 := ne_any PS
  by_cases e : srt (LF ++ flatT PS) = srt L
  case neg =>
    rw [decide_eq_false e]
    refine iteT ?_
    refine iteT ?_
    have : showsP PS LF L = false := by
      unfold showsP
      rw [decide_eq_false e, Bool.false_and, Bool.and_false]
    rw [this] at q
    exact q _ s3
  rw [decide_eq_true e]
  refine iteF ?_
  refine ⟨.ref P, rfl, P, rfl, ⟨_, SqL.of (s3 _ _ hP)⟩, fun D hD => ?_⟩
  refine lc_pure (L := PS) (fun p => some (.bl (decide (p.1 = p.2)))) (by rw [← lts, ← List.length_map (f := V.ref)]; exact walk_list) hD (by omega) (fun _ _ s g => s.seq g) (SqL.of (s3 _ _ hP)) ?_ (fun H4 s4 hr => ?_)
  · rintro j hj x H5 _ s5 _ ⟨rfl, hx⟩ Z Zn z1 z2
    obtain ⟨w, rfl, hw⟩ := tups_at ((hts.same s3).same s5) hj hx
    refine ⟨rfl, .ref w, rfl, w, _, 0, .int PS[j].1, rfl, rfl, hw, rfl, .ref w, rfl, w, _, 1, .int PS[j].2, rfl, rfl, hw, rfl, rfl, z1 _ _ ?_ (Same.refl _)⟩
    by_cases ez : PS[j].1 = PS[j].2
    · rw [decide_eq_true ez, decide_eq_true (congrArg V.int ez)]
    · rw [decide_eq_false ez, decide_eq_false (fun z => ez (V.int.inj z))]
  rw [fm_map] at hr
  have s34 := s3.trans s4
  refine ⟨D, PS.map (fun p => decide (p.1 = p.2)), rfl, by rw [List.map_map]; exact SqL.of hr, PS.any (fun p => decide (p.1 = p.2)), by rw [any_map], ?_⟩
  cases hdup : PS.any (fun p => decide (p.1 = p.2)) with
  | true =>
    refine iteT ?_
    have : showsP PS LF L = false := by
      unfold showsP
      rw [hsh0, hdup]
      rfl
    rw [this] at q
    exact q _ s34
  | false =>
    refine iteF ?_
    have hsh : showsP PS LF L = (decide (LF.length < 2) || (LF.all (fun z => decide (z = LF.headD 0)) && PS.all (fun p => decide (LF.headD 0 = p.1) || decide (LF.headD 0 = p.2)))) := by
      unfold showsP
      rw [hsh0, hdup, decide_eq_true e]
      rfl
    rw [hsh] at q
    have hl4 := s34 _ _ hl
    refine ⟨.ref l, rfl, l, LI LF, rfl, .inl (SqL.of hl4), _, _, rfl, rfl, _, rfl, ?_⟩
    rw [show ((LI LF).length : Int) = (LF.length : Int) by rw [LI, List.length_map]]
    by_cases c2 : LF.length < 2
    · rw [decide_eq_true (show (LF.length : Int) < 2 by omega)]
      refine iteT ?_
      rw [decide_eq_true c2, Bool.true_or] at q
      exact q _ s34
    rw [decide_eq_false (show ¬ (LF.length : Int) < 2 by omega)]
    refine iteF ?_
    rw [decide_eq_false c2, Bool.false_or] at q
    refine ⟨.ref l, rfl, l, LF, rfl, SqL.of hl4, zL, rfl, _, rfl, ?_⟩
    have hne : LF ≠ [] := fun z => by rw [z] at c2; exact c2 (by decide)
    have hall : LF.all (fun z => decide (z = LF.headD 0)) = decide (V.int ((dd LF).length : Nat) = V.int 1) := by
      rw [Bool.eq_iff_iff, List.all_eq_true, decide_eq_true_eq]
      constructor
      · intro k
        have := (dd_one hne).mpr fun z hz => of_decide_eq_true (k z hz)
        rw [this]
        rfl
      · intro k z hz
        exact decide_eq_true ((dd_one hne).mp (by have := V.int.inj k; omega) z hz)
    rw [hall] at q
    cases hA : decide (V.int ((dd LF).length : Nat) = V.int 1) with
    | false =>
      rw [hA, Bool.false_and] at q
      exact iteF (q _ s34)
    | true =>
      rw [hA, Bool.true_and] at q
      refine iteT ?_
      refine ⟨.ref P, rfl, P, rfl, ⟨_, SqL.of (s34 _ _ hP)⟩, fun D2 hD2 => ?_⟩
      refine lc_pure (L := PS) (fun p => some (.bl (decide (LF.headD 0 = p.1) || decide (LF.headD 0 = p.2)))) (by rw [← lts, ← List.length_map (f := V.ref)]; exact walk_list) hD2 (by omega) (fun _ _ s g => s.seq g) (SqL.of (s34 _ _ hP)) ?_ (fun H6 s6 hr2 => ?_)
      · rintro j hj x H5 _ s5 _ ⟨rfl, hx⟩ Z Zn z1 z2
        obtain ⟨w, rfl, hw⟩ := tups_at ((hts.same s34).same s5) hj hx
        have h0 : (LI LF)[0]? = some (.int (LF.headD 0)) := by
          cases LF with
          | nil => exact absurd rfl hne
          | cons k r => rfl
        refine ⟨rfl, .ref l, rfl, l, LI LF, 0, .int (LF.headD 0), rfl, rfl, SqL.of (s5 _ _ hl4), at_of (j := 0) rfl h0, .ref w, rfl, w, _, rfl, .inr hw, rfl, rfl, z1 _ _ ?_ (Same.refl _)⟩
        show some (V.bl (decide (LF.headD 0 = PS[j].1) || decide (LF.headD 0 = PS[j].2))) = some (V.bl (inV (.int (LF.headD 0)) [.int PS[j].1, .int PS[j].2]))
        rw [show ([.int PS[j].1, .int PS[j].2] : List V) = LI [PS[j].1, PS[j].2] from rfl, inV_li]
        simp
      · rw [fm_map] at hr2
        refine ⟨D2, PS.map (fun p => (decide (LF.headD 0 = p.1) || decide (LF.headD 0 = p.2))), rfl, by rw [List.map_map]; exact SqL.of hr2, ?_⟩
        rw [all_map]
        exact q _ (s34.trans s6)
def sp_Paired_shows (K : PySem.W.Frag) : Sp := sp2 fun x y H Q _ => ∃ a dx pl ll ts PS LF m M, x = .ref a ∧ y = .ref m ∧ H a = some (.ins (He.ga K "Paired") dx [("pairs", .ref pl), ("left", .ref ll)]) ∧ H pl = some (.lst (ts.map V.ref)) ∧ TupsAt K H ts PS ∧
  H ll = some (.lst (LI LF)) ∧ SqL K H m (LI M) ∧ M.length ≤ 100000 ∧ PS.length ≤ 100000 ∧ LF.length ≤ 100000 ∧ ∀ H', Same H H' → Q (.bl (showsP PS LF M)) H'
theorem k_Paired_shows (T : Tp K mg base) : MetOk P w K mg base CX0 1 "Paired" "shows" ["self", "heap"] (sp_Paired_shows K) := by
  obtain ⟨fd, F⟩ := d_Paired_shows T
  refine ⟨_, fd, F.ok sc_Paired_shows len2 (fun cdv A outer s H vs Q E hr h => ?_), (F.bindsN fun _ _ _ _ _ _ us hl => match us, hl with | [_, _], _ => rfl), cls_Paired T, me_Paired_shows T⟩
  refine ⟨_, PSs.nox (pss_cons (ps_set (i := 2) sc_Paired_shows.nd rfl (Or.inl rfl) (pe_callTy (zlist K) (by rfl) (n_list T) (by decide +kernel) (pa_cons (zfld K (pv 0) (by rfl)) pa_nil)))
      (pss_cons (ps_for PassesOwn.never rfl (pi_list (zfld K (pv 0) (by rfl))) (pg_tup rfl (pgs_cons (pg_name (i := 3) sc_Paired_shows.nd rfl (Or.inl rfl)) (pgs_cons (pg_name (i := 4) sc_Paired_shows.nd rfl (Or.inl rfl)) pgs_nil)))
        (pss_cons (ps_if (pt_cmpR op_eq (pv 3) (pv 4) (nomark _)) (pss_one (ps_ret pe_bl)) pss_nil)
      (pss_one (ps_expr (pe_bm PySem.F.plainAttrs_list PySem.F.slot_list_extend PySem.F.type_list_extend mt_extend (pv 2) (pa_cons (pe_lst (pa_cons (pv 3) (pa_cons (pv 4) pa_nil))) pa_nil))))))
      (pss_cons (ps_if (pt_cmpR (zneD K hr.units) (pe_callB (zsorted K) (by rfl) (n_sorted T) (by decide +kernel) (pa_cons (pv 2) pa_nil)) (pe_callB (zsorted K) (by rfl) (n_sorted T) (by decide +kernel) (pa_cons (pv 1) pa_nil)) (nomark _)) (pss_one (ps_ret pe_bl)) pss_nil)
      (pss_cons (ps_if (pt_cmpR op_lt (pe_callB (zlen K) (by rfl) (n_len T) (by decide +kernel) (pa_cons (zfld K (pv 0) (by rfl)) pa_nil)) pe_int (nomark _)) (pss_one (ps_ret pe_bl)) pss_nil)
      (pss_cons (ps_set (i := 5) sc_Paired_shows.nd rfl (Or.inr rfl) (pe_ix (zixL K) (zfld K (pv 0) (by rfl)) pe_int (fun _ _ => rfl)))
      (pss_one (ps_ret (pe_and (pe_callB (zall K) (by rfl) (n_all T) (by decide +kernel) (pa_cons (pe_lc (own := [("one", 3)]) (g := gName 3) (tt := tYes) (by rfl) sc_Paired_shows.nd (pi_list (zfld K (pv 0) (by rfl))) (blkOk_by (own := [("one", 3)]) (N := N_Paired_shows) (sc := defScope s_Paired_shows) (by decide +kernel)) (fun _ _ _ _ _ => pg_name (i := 3) sc_Paired_shows.nd rfl (Or.inl rfl)) (fun _ _ _ _ _ => pts_nil) (fun _ _ _ _ _ => (pe_cmpR op_eq (pv 3) (pv 5) (nomark _)))) pa_nil)) (pe_one (pe_callB (zall K) (by rfl) (n_all T) (by decide +kernel) (pa_cons (pe_lc (own := [("pair", 6)]) (g := gName 6) (tt := tYes) (by rfl) sc_Paired_shows.nd (pi_list (zfld K (pv 0) (by rfl))) (blkOk_by (own := [("pair", 6)]) (N := N_Paired_shows) (sc := defScope s_Paired_shows) (by decide +kernel)) (fun _ _ _ _ _ => pg_name (i := 6) sc_Paired_shows.nd rfl (Or.inl rfl)) (fun _ _ _ _ _ => pts_nil) (fun _ _ _ _ _ => (pe_cmpR (zin K) (pv 5) (pv 6) (by rfl)))) pa_nil))))))))))), ?_⟩
  obtain ⟨_, _, rfl, a, dx, pl, ll, ts, PS, LF, m, M, rfl, rfl, ha, hpl, hts, hll, hm, zM, zP, zL, q⟩ := h
  have lts := paired_len hts
  refine ⟨.ref a, rfl, a, _, dx, _, .ref ll, rfl, ha, cls_Paired T, na_Paired_left T, rfl, ll, LI LF, rfl, .inl (SqL.of hll), fun l nl => ?_⟩
  have s0 : Same H (upd H l (.lst (LI LF))) := same_upd nl
  refine ⟨.ref a, rfl, a, _, dx, _, .ref pl, rfl, s0 _ _ ha, cls_Paired T, na_Paired_pairs T, rfl, pl, rfl, ⟨_, SqL.of (s0 _ _ hpl)⟩, ?_⟩
  refine for_it (walk_list (xs := ts.map V.ref)) (fun i σ H' => ∃ y3 y4 y6, σ = [some (.ref a), some (.ref m), some (.ref l), y3, y4, none, y6] ∧ Same H H' ∧ H' l = some (.lst (LI (LF ++ flatT (PS.take i)))) ∧ (PS.take i).all (fun p => decide (p.1 ≠ p.2)) = true)
    ⟨_, _, _, rfl, s0, by rw [upd_same]; simp [flatT], rfl⟩ (fun i σ H' _ ⟨_, _, _, _, s, _⟩ => SqL.of (s _ _ hpl)) ?_ ?_
  · rintro i x σ _ H1 hi ⟨y3, y4, y6, rfl, s1, hl1, ok⟩ ⟨rfl, hx⟩
    rw [List.length_map] at hi
    have hi' : i < PS.length := by omega
    obtain ⟨w, rfl, hw⟩ := tups_at (hts.same s1) hi' hx
    refine ⟨w, _, rfl, hw, rfl, _, _, rfl, _, _, rfl, rfl, _, rfl, _, rfl, rfl, _, rfl, ite2 (fun e => ?_) (fun e => ?_)⟩
    · have e' := V.int.inj (of_decide_eq_true e)
      have : showsP PS LF M = false := by
        unfold showsP
        have : PS.all (fun p => decide (p.1 ≠ p.2)) = false := by
          rw [List.all_eq_false]
          exact ⟨PS[i], List.getElem_mem hi', by simp [e']⟩
        rw [this, Bool.false_and]
      rw [this] at q
      exact q _ s1
    · have e' : PS[i].1 ≠ PS[i].2 := fun z => e (decide_eq_true (congrArg V.int z))
      refine ⟨.ref l, rfl, .inl ⟨rfl, _, SqL.of hl1⟩, _, rfl, _, rfl, by show 2 ≤ sizeLine; decide, fun u nu => ⟨l, u, _, _, rfl, rfl, same_upd nu _ _ hl1, upd_same, sz_le ?_, ?_⟩⟩
      · have h1 := flatT_len (PS.take i)
        rw [List.length_take] at h1
        rw [LI, List.length_map, List.length_append, h1]
        show _ + 2 ≤ _
        omega
      · refine ⟨_, _, _, rfl, sm_put (s1.trans (same_upd nu)) nl, ?_, ?_⟩
        · rw [upd_same, List.take_add_one, List.getElem?_eq_getElem hi']
          show _ = some (HO.lst (LI (LF ++ flatT (_ ++ [_]))))
          rw [flatT_snoc, ← List.append_assoc, LI, LI, List.map_append (l₁ := LF ++ _)]
          rfl
        · rw [List.take_add_one, List.getElem?_eq_getElem hi', List.all_append, ok]
          simp [e']
  · rintro σ H1 ⟨y3, y4, y6, rfl, s1, hl1, ok⟩
    rw [List.length_map, lts, List.take_length] at hl1 ok
    refine ⟨.ref l, rfl, l, _, rfl, SqL.of hl1, fun ns p pr so np => ?_⟩
    have e1 := sorted_eq pr so
    subst e1
    have s2 := s1.trans (same_upd (o := .lst (LI (srt (LF ++ flatT PS)))) np)
    refine ⟨.ref m, rfl, m, _, rfl, s2.seq hm, fun ns p2 pr2 so2 np2 => ?_⟩
    have e2 := sorted_eq pr2 so2
    subst e2
    have s3 := s2.trans (same_upd (o := .lst (LI (srt M))) np2)
    refine ⟨dI _, dI _, dp_li (SqL.of (same_upd np2 _ _ upd_same)), dp_li (SqL.of upd_same), shaped_dI _, shaped_dI _, ?_⟩
    rw [eqv_dI]
    refine ⟨_, rfl, ?_⟩
    by_cases e : srt (LF ++ flatT PS) = srt M
    · rw [decide_eq_true e]
      refine iteF ?_
      refine ⟨.ref a, rfl, a, _, dx, _, .ref ll, rfl, s3 _ _ ha, cls_Paired T, na_Paired_left T, rfl, ll, LI LF, rfl, .inl (SqL.of (s3 _ _ hll)), _, _, rfl, rfl, _, rfl, ite2 (fun e3 => ?_) (fun e3 => ?_)⟩
      · have e3' := of_decide_eq_true e3
        rw [List.length_map] at e3'
        have : showsP PS LF M = true := by
          unfold showsP
          rw [ok, decide_eq_true e, decide_eq_true (show LF.length < 2 by omega)]
          rfl
        rw [this] at q
        exact q _ s3
      · have e3' : ¬ LF.length < 2 := fun z => e3 (decide_eq_true (by rw [List.length_map]; omega))
        obtain ⟨k, r, rfl⟩ : ∃ k r, LF = k :: r := by
          cases LF with
          | nil => exact absurd (by decide) e3'
          | cons k r => exact ⟨k, r, rfl⟩
        refine ⟨.ref a, rfl, a, _, dx, _, .ref ll, rfl, s3 _ _ ha, cls_Paired T, na_Paired_left T, rfl, ll, LI (k :: r), 0, .int k, rfl, rfl, SqL.of (s3 _ _ hll), at_of (j := 0) rfl rfl, ?_⟩
        have hsh : showsP PS (k :: r) M = ((k :: r).all (fun z => decide (z = k)) && PS.all (fun p => decide (k = p.1) || decide (k = p.2))) := by
          unfold showsP
          rw [ok, decide_eq_true e, decide_eq_false e3']
          rfl
        rw [hsh] at q
        clear hsh
        refine ⟨.ref a, rfl, a, _, dx, _, .ref ll, rfl, s3 _ _ ha, cls_Paired T, na_Paired_left T, rfl, ll, rfl, ⟨_, SqL.of (s3 _ _ hll)⟩, fun D hD => ?_⟩
        refine lc_pure (L := k :: r) (fun z => some (.bl (decide (z = k)))) (by rw [← List.length_map (f := V.int)]; exact walk_list) hD zL (fun _ _ s g => s.seq g) (SqL.of (s3 _ _ hll)) ?_ (fun H4 s4 hr => ?_)
        · rintro j hj x H5 _ s5 _ ⟨rfl, hx⟩ Z Zn z1 z2
          rw [li_get hj] at hx
          obtain rfl := Option.some.inj hx
          refine ⟨rfl, _, rfl, _, rfl, rfl, z1 _ _ ?_ (Same.refl _)⟩
          by_cases ez : (k :: r)[j] = k
          · rw [decide_eq_true ez, decide_eq_true (congrArg V.int ez)]
          · rw [decide_eq_false ez, decide_eq_false (fun z => ez (V.int.inj z))]
        · rw [fm_map] at hr
          refine ⟨D, (k :: r).map (fun z => decide (z = k)), rfl, by rw [List.map_map]; exact SqL.of hr, _, rfl, ?_⟩
          rw [all_map]
          cases hA : (k :: r).all (fun z => decide (z = k)) with
          | false =>
            rw [hA, Bool.false_and] at q
            exact iteF (q _ (s3.trans s4))
          | true =>
            rw [hA, Bool.true_and] at q
            have s34 := s3.trans s4
            refine iteT ?_
            refine ⟨.ref a, rfl, a, _, dx, _, .ref pl, rfl, s34 _ _ ha, cls_Paired T, na_Paired_pairs T, rfl, pl, rfl, ⟨_, SqL.of (s34 _ _ hpl)⟩, fun D2 hD2 => ?_⟩
            refine lc_pure (L := PS) (fun p => some (.bl (decide (k = p.1) || decide (k = p.2)))) (by rw [← lts, ← List.length_map (f := V.ref)]; exact walk_list) hD2 zP (fun _ _ s g => s.seq g) (SqL.of (s34 _ _ hpl)) ?_ (fun H6 s6 hr2 => ?_)
            · rintro j hj x H5 _ s5 _ ⟨rfl, hx⟩ Z Zn z1 z2
              obtain ⟨w, rfl, hw⟩ := tups_at ((hts.same s34).same s5) hj hx
              refine ⟨rfl, .int k, rfl, .ref w, rfl, w, _, rfl, .inr hw, rfl, rfl, z1 _ _ ?_ (Same.refl _)⟩
              show some (V.bl (decide (k = PS[j].1) || decide (k = PS[j].2))) = some (V.bl (inV (.int k) [.int PS[j].1, .int PS[j].2]))
              rw [show ([.int PS[j].1, .int PS[j].2] : List V) = LI [PS[j].1, PS[j].2] from rfl, inV_li]
              simp
            · rw [fm_map] at hr2
              refine ⟨D2, PS.map (fun p => (decide (k = p.1) || decide (k = p.2))), rfl, by rw [List.map_map]; exact SqL.of hr2, ?_⟩
              rw [all_map]
              exact q _ (s34.trans s6)
    · rw [decide_eq_false e]
      refine iteT ?_
      have : showsP PS LF M = false := by
        unfold showsP
        rw [decide_eq_false e, Bool.false_and, Bool.and_false]
      rw [this] at q
      exact q _ s3
/-- pairs at P, what is left at l -/
structure PSt (K : PySem.W.Frag) (H0 H : Hp) (P l : Addr) (PS : Tab) (LF : List Int) : Prop where
  sm : Sm K H0 H
  ps : ∃ ts : List Addr, H P = some (.lst (ts.map V.ref)) ∧ TupsAt K H ts PS
  zP : PS.length ≤ 70
  hl : H l = some (.lst (LI LF))
  zL : LF.length ≤ 70
  ne : l ≠ P
theorem PSt.same {K : PySem.W.Frag} {H0 H H' : Hp} {P l : Addr} {PS : Tab} {LF : List Int} (h : PSt K H0 H P l PS LF) (s : Same H H') : PSt K H0 H' P l PS LF := by
  obtain ⟨a, ⟨ts, b, c⟩, d, e, f, g⟩ := h
  exact ⟨a.trans (sm_of s), ⟨ts, s _ _ b, c.same s⟩, d, s _ _ e, f, g⟩
/-- the list of pairs changed -/
theorem PSt.put {K : PySem.W.Frag} {H0 H : Hp} {P l : Addr} {PS PS' : Tab} {LF : List Int} {ts : List Addr} (h : PSt K H0 H P l PS LF) (fP : Fr H0 P) (tt : TupsAt K H ts PS') (z : PS'.length ≤ 70) : PSt K H0 (upd H P (.lst (ts.map V.ref))) P l PS' LF := by
  obtain ⟨a, ⟨ts0, b, c⟩, d, e, f, g⟩ := h
  exact ⟨sm_mut a fP b, ⟨ts, upd_same, tt.upd b⟩, z, by rw [upd_ne g]; exact e, f, g⟩
def sp__law_pairs_right (K : PySem.W.Frag) : Sp := sp2 fun x y H Q _ => ∃ a L c, x = .ref a ∧ SqL K H a (LI L) ∧ Good L ∧ L.length ≤ 63 ∧ TabK K H ∧ y = .int c ∧ ∀ H', Sm K H H' → Q (.bl true) H'
theorem k__law_pairs_right (T : Tp K mg base) : DefOk P w K mg base CX0 5 "_law_pairs_right" ["_law_heap_here", "_law_cell"] (sp__law_pairs_right K) := by
  obtain ⟨fd, F⟩ := d__law_pairs_right T
  refine ⟨fd, F.ok sc__law_pairs_right len2 (fun cdv A outer s H vs Q E hr h => ?_), (F.bindsN fun _ _ _ _ _ _ us hl => match us, hl with | [_, _], _ => rfl), F.kp, g__law_pairs_right T⟩
  refine ⟨_, PSs.nox (pss_cons (ps_set (i := 2) sc__law_pairs_right.nd rfl (Or.inl rfl) (pe_fn (k_paired T) (hr.mono (by decide)) (by rfl) pass0 (pa_cons (pv 0) pa_nil)))
      (pss_cons (ps_par (by rfl) sc__law_pairs_right.nd (i := 3) (j := 4) rfl rfl (by decide) rfl rfl (pa_cons (pe_callTy (zlist K) (by rfl) (n_list T) (by decide +kernel) (pa_cons (zfld K (pv 2) (by rfl)) pa_nil)) (pa_cons (pe_fn (k__law_bent T) (hr.mono (by decide)) (by rfl) pass0 (pa_cons (zfld K (pv 2) (by rfl)) (pa_cons (pv 1) pa_nil))) pa_nil)) (by rfl))
      (pss_cons (ps_set (i := 5) sc__law_pairs_right.nd rfl (Or.inl rfl) (pe_fn (k__law_draw T) (hr.mono (by decide)) (by rfl) pass0 (pa_cons (pv 1) (pa_cons pe_int (pa_cons pe_int pa_nil)))))
      (Evl.pss_cut (ps_if (PW.pt (pw_and (pt_cmpR op_eq (pv 5) pe_int (nomark _)) (pw_and1 (pt_cmpR (zneD K hr.units) (pv 3) (pe_lst pa_nil) (nomark _))))) (pss_one (ps_set (i := 4) sc__law_pairs_right.nd rfl (Or.inl rfl) (pe_op op_cat (pv 4) (pe_callTy (zlist K) (by rfl) (n_list T) (by decide +kernel) (pa_cons (pe_bm0 PySem.F.plainAttrs_list PySem.F.slot_list_pop PySem.F.type_list_pop mt_pop (pv 3)) pa_nil))))) pss_nil)
      (Evl.pss_cut (ps_if (PW.pt (pw_and (pt_cmpR op_eq (pv 5) pe_int (nomark _)) (pw_and1 (pt_cmpR (zneD K hr.units) (pv 3) (pe_lst pa_nil) (nomark _))))) (pss_one (ps_asg (zbackP K (pe_ix (zixL K) (pv 3) pe_int (fun _ _ => rfl))) (pg_sub (pv 3) pe_int set_list))) pss_nil)
      (Evl.pss_cut (ps_if (PW.pt (pw_and (pt_cmpR op_eq (pv 5) pe_int (nomark _)) (pw_and1 (pt_cmpR op_gt (pe_callB (zlen K) (by rfl) (n_len T) (by decide +kernel) (pa_cons (pv 3) pa_nil)) pe_int (nomark _))))) (pss_one (ps_asg (pe_lst (pa_cons (pe_tup (pa_cons (pe_ix (zixT K) (pe_ix (zixL K) (pv 3) pe_int (fun _ _ => rfl)) pe_int (fun _ _ => rfl)) (pa_cons (pe_ix (zixT K) (pe_ix (zixL K) (pv 3) pe_int (fun _ _ => rfl)) pe_int (fun _ _ => rfl)) pa_nil))) (pa_cons (pe_tup (pa_cons (pe_ix (zixT K) (pe_ix (zixL K) (pv 3) pe_int (fun _ _ => rfl)) pe_int (fun _ _ => rfl)) (pa_cons (pe_ix (zixT K) (pe_ix (zixL K) (pv 3) pe_int (fun _ _ => rfl)) pe_int (fun _ _ => rfl)) pa_nil))) pa_nil))) (pg_upto (c := 2) (pv 3)))) pss_nil)
      (Evl.pss_cut (ps_if (pt_cmpR op_eq (pv 5) pe_int (nomark _)) (pss_one (ps_expr (pe_bm PySem.F.plainAttrs_list PySem.F.slot_list_append PySem.F.type_list_append mt_append (pv 3) (pa_cons (pe_tup (pa_cons pe_int (pa_cons pe_int pa_nil))) pa_nil)))) pss_nil)
      (pss_cons (ps_set (i := 6) sc__law_pairs_right.nd rfl (Or.inl rfl) (pe_lst (pa_cons (pe_callTy (zlist K) (by rfl) (n_list T) (by decide +kernel) (pa_cons (pv 3) pa_nil)) (pa_cons (pe_callTy (zlist K) (by rfl) (n_list T) (by decide +kernel) (pa_cons (pv 4) pa_nil)) pa_nil))))
      (pss_cons (ps_set (i := 7) sc__law_pairs_right.nd rfl (Or.inl rfl) (zmk K rfl (m_Paired T) (hr.mono (by decide)) (by rfl) pass0 (pa_cons (pe_ix (zixL K) (pv 6) pe_int (fun _ _ => rfl)) (pa_cons (pe_ix (zixL K) (pv 6) pe_int (fun _ _ => rfl)) pa_nil))))
      (pss_cons (ps_expr (pe_bm PySem.F.plainAttrs_list PySem.F.slot_list_append PySem.F.type_list_append mt_append (pe_ix (zixL K) (pv 6) pe_int (fun _ _ => rfl)) (pa_cons (pe_tup (pa_cons pe_int (pa_cons pe_int pa_nil))) pa_nil)))
      (pss_cons (ps_expr (pe_bm PySem.F.plainAttrs_list PySem.F.slot_list_append PySem.F.type_list_append mt_append (pe_ix (zixL K) (pv 6) pe_int (fun _ _ => rfl)) (pa_cons pe_int pa_nil)))
      (pss_cons (ps_if (PW.pt (pw_or (pt_cmpR (zneD K hr.units) (zfld K (pv 7) (by rfl)) (pv 3) (nomark _)) (pw_or1 (pt_cmpR (zneD K hr.units) (zfld K (pv 7) (by rfl)) (pv 4) (nomark _))))) (pss_one (ps_ret pe_bl)) pss_nil)
      (pss_one (ps_ret (pe_fn (k__law_says T) (hr.mono (by decide)) (by rfl) pass0 (pa_cons (zmt K rfl (k_Paired_shows T) (hr.mono (by decide)) pass0 (pv 7) (pa_cons (pv 0) pa_nil)) (pa_cons (pe_fn (k__law_paired T) (hr.mono (by decide)) (by rfl) pass0 (pa_cons (pv 0) (pa_cons (pv 3) (pa_cons (pv 4) pa_nil)))) pa_nil))))))))))))))))), ?_⟩
  obtain ⟨_, _, rfl, a, L, c, rfl, hS, hg, zL, hT, rfl, q⟩ := h
  refine ⟨.ref a, rfl, _, rfl, a, L, rfl, hS, hg, hT, fun H1 o dx pl ll ts PS LF s1 fo fpl fll npl ho hpl hts hll ok zP => ?_⟩
  have zF : LF.length ≤ 63 := by
    have := ok.perm.length_eq
    rw [List.length_append] at this
    omega
  refine ⟨.ref o, rfl, o, _, dx, _, .ref pl, rfl, ho, cls_Paired T, na_Paired_pairs T, rfl, pl, ts.map V.ref, rfl, .inl (SqL.of hpl), fun P nP => ?_⟩
  have t1 := same_upd (o := .lst (ts.map V.ref)) nP
  have fP : Fr H P := s1.fr (Fr.of nP)
  refine ⟨.ref o, rfl, o, _, dx, _, .ref ll, rfl, t1 _ _ ho, cls_Paired T, na_Paired_left T, rfl, _, rfl, _, _, rfl, ll, LF, c, rfl, SqL.of (t1 _ _ hll), by omega, rfl, fun H2 l LF1 s2 nl hl zF1 => ⟨_, _, rfl, ?_⟩⟩
  have st0 : PSt K H H2 P l PS LF1 := by
    refine ⟨(s1.trans (sm_of t1)).trans (sm_of s2), ⟨ts, s2 _ _ upd_same, (hts.same t1).same s2⟩, by omega, hl, by omega, fun z => ?_⟩
    rw [z, upd_same] at nl
    cases nl
  clear s1 t1 s2 nl hl hpl hts hll ho nP fo fpl fll npl
  refine ⟨_, rfl, _, _, _, rfl, c, 6, 6, rfl, rfl, rfl, by decide, by decide, fun H3 s3 => ?_⟩
  have st1 := st0.same s3
  generalize draw c 6 6 = w
  clear st0 s3
  -- a pair taken apart
  refine ⟨fun σ' H' => ∃ l PS LF, σ' = [some (.ref a), some (.int c), some (.ref o), some (.ref P), some (.ref l), some (.int w), none, none] ∧ PSt K H H' P l PS LF, ?_, ?_⟩
  · refine ⟨_, rfl, rfl, _, rfl, ite2 (fun _ => ?_) (fun _ => ?_)⟩
    case refine_2 => exact iteF ⟨_, _, _, rfl, st1⟩
    refine ⟨.ref P, rfl, Nat.zero_le _, fun e ne => ?_⟩
    have st2 := st1.same (same_upd (o := .lst []) ne)
    obtain ⟨ts1, hP, tt⟩ := st2.ps
    by_cases hn : PS = []
    · refine ⟨dT2 PS, dT2 [], dp_t2 (SqL.of hP) tt, dp_t2 (ts := []) (SqL.of upd_same) .nil, shaped_dT2 _, shaped_dT2 _, false, by rw [eqv_dT2, decide_eq_true hn]; rfl, ?_⟩
      refine iteF ?_
      exact ⟨_, _, _, rfl, st2⟩
    refine ⟨dT2 PS, dT2 [], dp_t2 (SqL.of hP) tt, dp_t2 (ts := []) (SqL.of upd_same) .nil, shaped_dT2 _, shaped_dT2 _, true, by rw [eqv_dT2, decide_eq_false hn]; rfl, ?_⟩
    refine iteT ?_
    have ePS : PS = PS.dropLast ++ [PS.getLast hn] := (List.dropLast_concat_getLast hn).symm
    generalize PS.getLast hn = p at ePS
    have zd : PS.dropLast.length ≤ 70 := by rw [List.length_dropLast]; have := st2.zP; omega
    generalize PS.dropLast = PS0 at ePS zd
    subst ePS
    obtain ⟨ts0, v, rfl, tt0, hv⟩ := tups_last tt
    have hlast : ((ts0 ++ [v]).map V.ref)[((ts0 ++ [v]).map V.ref).length - 1]? = some (.ref v) := by simp
    have hdrop : ((ts0 ++ [v]).map V.ref).dropLast = ts0.map V.ref := by simp
    refine ⟨.ref l, rfl, .ref P, rfl, .inl ⟨rfl, _, SqL.of hP⟩, P, _, _, rfl, rfl, hP, hlast, ?_⟩
    rw [hdrop]
    have st3 := st2.put fP tt0 zd
    refine ⟨v, _, rfl, .inr (tup_upd hP hv), fun u nu => ?_⟩
    have st4 := st3.same (same_upd (o := .lst [.int p.1, .int p.2]) nu)
    have hu := upd_same (H := upd (upd H3 e (.lst [])) P (.lst (ts0.map V.ref))) (a := u) (o := .lst [.int p.1, .int p.2])
    refine ⟨l, u, _, _, rfl, rfl, st4.hl, hu, sz_le (by have := st4.zL; rw [LI, List.length_map]; show _ + 2 ≤ _; omega), fun r nr => ?_⟩
    have elf : LI LF1 ++ [.int p.1, .int p.2] = LI (LF1 ++ [p.1, p.2]) := by rw [LI, LI, List.map_append]; rfl
    rw [elf]
    obtain ⟨b1, ⟨ts5, b2, b3⟩, b4, _, _, b7⟩ := st4.same (same_upd (o := .lst (LI (LF1 ++ [p.1, p.2]))) nr)
    refine ⟨r, _, _, rfl, b1, ⟨ts5, b2, b3⟩, b4, upd_same, ?_, fun z => ?_⟩
    · rw [List.length_append]
      show _ + 2 ≤ 70
      omega
    · obtain ⟨ts6, c2, _⟩ := st4.ps
      rw [z, c2] at nr
      cases nr
  clear st1
  rintro σ' H4 ⟨l1, PS1, LF2, rfl, st1⟩
  -- a pair turned round
  refine ⟨fun σ' H' => ∃ PS, σ' = [some (.ref a), some (.int c), some (.ref o), some (.ref P), some (.ref l1), some (.int w), none, none] ∧ PSt K H H' P l1 PS LF2, ?_, ?_⟩
  · refine ⟨_, rfl, rfl, _, rfl, ite2 (fun _ => ?_) (fun _ => ?_)⟩
    case refine_2 => exact iteF ⟨_, rfl, st1⟩
    refine ⟨.ref P, rfl, Nat.zero_le _, fun e ne => ?_⟩
    have st2 := st1.same (same_upd (o := .lst []) ne)
    obtain ⟨ts1, hP, tt⟩ := st2.ps
    by_cases hn : PS1 = []
    · refine ⟨dT2 PS1, dT2 [], dp_t2 (SqL.of hP) tt, dp_t2 (ts := []) (SqL.of upd_same) .nil, shaped_dT2 _, shaped_dT2 _, false, by rw [eqv_dT2, decide_eq_true hn]; rfl, ?_⟩
      refine iteF ?_
      exact ⟨_, rfl, st2⟩
    refine ⟨dT2 PS1, dT2 [], dp_t2 (SqL.of hP) tt, dp_t2 (ts := []) (SqL.of upd_same) .nil, shaped_dT2 _, shaped_dT2 _, true, by rw [eqv_dT2, decide_eq_false hn]; rfl, ?_⟩
    refine iteT ?_
    have zz := st2.zP
    cases tt with
    | nil => exact absurd rfl hn
    | @cons t0 p tr r h0 tr' =>
      refine ⟨.ref P, rfl, P, _, 0, .ref t0, rfl, rfl, SqL.of hP, at_of (j := 0) rfl rfl, t0, _, _, rfl, h0, fun u nu => ?_⟩
      have st3 := st2.same (same_upd (o := .tup [.int p.2, .int p.1]) nu)
      have hP3 := same_upd (o := .tup [.int p.2, .int p.1]) nu _ _ hP
      refine ⟨.ref P, rfl, P, _, 0, 0, rfl, rfl, hP3, ix_at rfl (Nat.zero_lt_succ _), ?_⟩
      exact ⟨(p.2, p.1) :: r, rfl, st3.put (ts := u :: tr) fP (.cons (SqT.of upd_same) (TupsAt.same (same_upd (o := .tup [.int p.2, .int p.1]) nu) tr')) zz⟩
  clear st1
  rintro σ' H5 ⟨PS2, rfl, st1⟩
  -- two pairs exchanged
  refine ⟨fun σ' H' => ∃ PS, σ' = [some (.ref a), some (.int c), some (.ref o), some (.ref P), some (.ref l1), some (.int w), none, none] ∧ PSt K H H' P l1 PS LF2, ?_, ?_⟩
  · refine ⟨_, rfl, rfl, _, rfl, ite2 (fun _ => ?_) (fun _ => ?_)⟩
    case refine_2 => exact iteF ⟨_, rfl, st1⟩
    obtain ⟨ts1, hP, tt⟩ := st1.ps
    have lts := paired_len tt
    refine ⟨.ref P, rfl, P, _, rfl, .inl (SqL.of hP), _, _, rfl, rfl, _, rfl, ite2 (fun e => ?_) (fun _ => ⟨_, rfl, st1⟩)⟩
    have e := of_decide_eq_true e
    rw [List.length_map, lts] at e
    have zz := st1.zP
    cases tt with
    | nil => exact absurd e (by decide)
    | @cons t0 p tr r h0 tr' =>
    cases tr' with
    | nil => exact absurd e (by show ¬ (1 : Int) < ((1 : Nat) : Int); decide)
    | @cons t1 p' ts2 r2 h1 tr2 =>
      have at0 : atI ((t0 :: t1 :: ts2).map V.ref) 0 = some (.ref t0) := at_of (j := 0) rfl rfl
      have at1 : atI ((t0 :: t1 :: ts2).map V.ref) 1 = some (.ref t1) := at_of (j := 1) rfl rfl
      refine ⟨.ref P, rfl, P, _, 0, .ref t0, rfl, rfl, SqL.of hP, at0, t0, _, 0, .int p.1, rfl, rfl, h0, rfl, .ref P, rfl, P, _, 1, .ref t1, rfl, rfl, SqL.of hP, at1, t1, _, 0, .int p'.1, rfl, rfl, h1, rfl, by show 2 ≤ sizeLine; decide, fun u nu => ?_⟩
      have g1 := same_upd (o := .tup [.int p.1, .int p'.1]) nu
      have hP1 := g1 _ _ hP
      refine ⟨.ref P, rfl, P, _, 0, .ref t0, rfl, rfl, SqL.of hP1, at0, t0, _, 1, .int p.2, rfl, rfl, sm_tup g1 h0, rfl, .ref P, rfl, P, _, 1, .ref t1, rfl, rfl, SqL.of hP1, at1, t1, _, 1, .int p'.2, rfl, rfl, sm_tup g1 h1, rfl, by show 2 ≤ sizeLine; decide, fun v nv => ⟨by show 2 ≤ sizeLine; decide, fun r' nr => ?_⟩⟩
      have g2 := g1.trans (same_upd (o := .tup [.int p.2, .int p'.2]) nv)
      have g3 := g2.trans (same_upd (o := .lst [.ref u, .ref v]) nr)
      have hP3 := g3 _ _ hP
      have hu3 := same_upd (o := .lst [.ref u, .ref v]) nr _ _ (same_upd (o := .tup [.int p.2, .int p'.2]) nv _ _ (upd_same (H := H5) (a := u) (o := .tup [.int p.1, .int p'.1])))
      have hv3 := same_upd (o := .lst [.ref u, .ref v]) nr _ _ (upd_same (H := upd H5 u (.tup [.int p.1, .int p'.1])) (a := v) (o := .tup [.int p.2, .int p'.2]))
      have Pr : P ≠ r' := fun z => by rw [← z] at nr; rw [g2 _ _ hP] at nr; cases nr
      have st3 := st1.same g3
      refine ⟨.ref P, rfl, P, r', _, _, rfl, rfl, hP3, upd_same, Pr, by show 2 ≤ _ + 1 + 1; omega, ?_, ?_⟩
      · rw [List.length_map, lts]
        show _ + 2 ≤ _
        omega
      · refine ⟨(p.1, p'.1) :: (p.2, p'.2) :: r2, rfl, ?_⟩
        exact st3.put (ts := u :: v :: ts2) fP (.cons (SqT.of hu3) (.cons (SqT.of hv3) (TupsAt.same g3 tr2))) zz
  clear st1
  rintro σ' H6 ⟨PS3, rfl, st1⟩
  -- a pair of alike ones more
  refine ⟨fun σ' H' => ∃ PS, σ' = [some (.ref a), some (.int c), some (.ref o), some (.ref P), some (.ref l1), some (.int w), none, none] ∧ Sm K H H' ∧ (∃ ts : List Addr, H' P = some (.lst (ts.map V.ref)) ∧ TupsAt K H' ts PS) ∧ PS.length ≤ 71 ∧ H' l1 = some (.lst (LI LF2)) ∧ LF2.length ≤ 70, ?_, ?_⟩
  · refine ⟨_, rfl, rfl, _, rfl, ite2 (fun _ => ?_) (fun _ => ⟨_, rfl, st1.sm, st1.ps, by have := st1.zP; omega, st1.hl, st1.zL⟩)⟩
    obtain ⟨ts1, hP, tt⟩ := st1.ps
    have lts := paired_len tt
    have zz := st1.zP
    refine ⟨.ref P, rfl, .inl ⟨rfl, _, SqL.of hP⟩, by show 2 ≤ sizeLine; decide, fun u nu => ?_⟩
    have g1 := same_upd (o := .tup [.int 5, .int 5]) nu
    have st2 := st1.same g1
    refine ⟨P, _, .ref u, rfl, rfl, g1 _ _ hP, sz_lt (by rw [List.length_map]; omega), ?_⟩
    have em : ts1.map V.ref ++ [.ref u] = (ts1 ++ [u]).map V.ref := by simp
    rw [em]
    refine ⟨PS3 ++ [(5, 5)], rfl, sm_mut st2.sm fP (g1 _ _ hP), ⟨ts1 ++ [u], upd_same, ?_⟩, by rw [List.length_append]; show _ + 1 ≤ _; omega, by rw [upd_ne st2.ne]; exact st2.hl, st2.zL⟩
    exact tups_snoc (tup_upd (g1 _ _ hP) (SqT.of upd_same)) ((tt.same g1).upd (g1 _ _ hP))
  clear st1
  rintro σ' H7 ⟨PS4, rfl, s7, ⟨ts4, hP7, tt7⟩, zP7, hl7, zL7⟩
  -- the answer, of lists that are changed behind
  refine ⟨.ref P, rfl, P, _, rfl, .inl (SqL.of hP7), fun g1 m1 => ?_⟩
  have r1 := same_upd (o := .lst (ts4.map V.ref)) m1
  refine ⟨.ref l1, rfl, l1, LI LF2, rfl, .inl (SqL.of (r1 _ _ hl7)), fun g2 m2 => ⟨by show 2 ≤ sizeLine; decide, fun h mh => ?_⟩⟩
  have r2 := r1.trans (same_upd (o := .lst (LI LF2)) m2)
  have r3 := r2.trans (same_upd (o := .lst [.ref g1, .ref g2]) mh)
  have hg1 := same_upd (o := .lst [.ref g1, .ref g2]) mh _ _ (same_upd (o := .lst (LI LF2)) m2 _ _ (upd_same (H := H7) (a := g1) (o := .lst (ts4.map V.ref))))
  have hg2 := same_upd (o := .lst [.ref g1, .ref g2]) mh _ _ (upd_same (H := upd H7 g1 (.lst (ts4.map V.ref))) (a := g2) (o := .lst (LI LF2)))
  have hh := upd_same (H := upd (upd H7 g1 (.lst (ts4.map V.ref))) g2 (.lst (LI LF2))) (a := h) (o := .lst [.ref g1, .ref g2])
  have n21 : g2 ≠ g1 := fun z => by rw [z, upd_same] at m2; cases m2
  have f1 : H7 g1 = none := m1
  have f2 : H7 g2 = none := r1.free m2
  have fh1 : h ≠ g1 := fun z => by have := (same_upd (o := .lst (LI LF2)) m2) _ _ (upd_same (H := H7) (a := g1) (o := .lst (ts4.map V.ref))); rw [z, this] at mh; cases mh
  have fh2 : h ≠ g2 := fun z => by rw [z, upd_same] at mh; cases mh
  generalize upd (upd (upd H7 g1 (.lst (ts4.map V.ref))) g2 (.lst (LI LF2))) h (.lst [.ref g1, .ref g2]) = H8 at r3 hg1 hg2 hh
  refine ⟨.ref h, rfl, h, _, 0, .ref g1, rfl, rfl, SqL.of hh, rfl, .ref h, rfl, h, _, 1, .ref g2, rfl, rfl, SqL.of hh, rfl, fun o1 dx1 no1 ndx1 ne1 => ?_⟩
  have t1 : Same H8 (upd (upd H8 dx1 (.own o1)) o1 (.ins (He.ga K "Paired") dx1 [])) := sm_put (same_upd ndx1) no1
  refine ⟨_, _, _, rfl, o1, dx1, g1, g2, _, _, rfl, rfl, rfl, upd_same, SqL.of (t1 _ _ hg1), SqL.of (t1 _ _ hg2), fun H9 pl1 ll1 sX npl nll pll ho1 hpl1 hll1 => ⟨rfl, ?_⟩⟩
  have s89 : Same H8 H9 := fun b u e => sX b u (ne_of_none e no1) (t1 b u e)
  have npl8 : H8 pl1 = none := t1.free npl
  have nll8 : H8 ll1 = none := t1.free nll
  have s79 := r3.trans s89
  have hh9 := s89 _ _ hh
  have hg19 := s89 _ _ hg1
  have hg29 := s89 _ _ hg2
  refine ⟨.ref h, rfl, h, _, 0, .ref g1, rfl, rfl, SqL.of hh9, rfl, .inl ⟨rfl, _, SqL.of hg19⟩, by show 2 ≤ sizeLine; decide, fun u nu => ?_⟩
  have gu := same_upd (o := .tup [.int 1, .int 2]) nu
  have lts4 := paired_len tt7
  refine ⟨g1, _, .ref u, rfl, rfl, gu _ _ hg19, sz_lt (by rw [List.length_map]; omega), ?_⟩
  -- what stands as before
  have ne_of : ∀ {b g : Addr} {o : HO}, H7 b = some o → H7 g = none → b ≠ g := fun hb hgn z => by rw [z, hgn] at hb; cases hb
  have p8 : ∀ {b g : Addr} {o : HO}, H8 g = some o → H8 b = none → b ≠ g := fun hb hgn z => by rw [z, hb] at hgn; cases hgn
  have s710 := s79.trans gu
  have A1 : ∀ b o, b ≠ g1 → upd H9 u (.tup [.int 1, .int 2]) b = some o → upd (upd H9 u (.tup [.int 1, .int 2])) g1 (.lst (ts4.map V.ref ++ [.ref u])) b = some o := fun b o n e => by rw [upd_ne n]; exact e
  have sm10 : Sm K H (upd (upd H9 u (.tup [.int 1, .int 2])) g1 (.lst (ts4.map V.ref ++ [.ref u]))) := sm_mut (s7.trans (sm_of s710)) (s7.fr (Fr.of f1)) (gu _ _ hg19)
  have hP10 := A1 _ _ (ne_of hP7 f1) (s710 _ _ hP7)
  have hl10 := A1 _ _ (ne_of hl7 f1) (s710 _ _ hl7)
  have tt10 : TupsAt K (upd (upd H9 u (.tup [.int 1, .int 2])) g1 (.lst (ts4.map V.ref ++ [.ref u]))) ts4 PS4 := (tt7.same s710).upd (gu _ _ hg19)
  have ho10 := A1 _ _ (p8 hg1 no1) (gu _ _ ho1)
  have hpl10 := A1 _ _ (p8 hg1 npl8) (gu _ _ hpl1)
  have hll10 := A1 _ _ (p8 hg1 nll8) (gu _ _ hll1)
  have hh10 := A1 _ _ fh1 (gu _ _ hh9)
  have hg210 := A1 _ _ n21 (gu _ _ hg29)
  generalize upd (upd H9 u (.tup [.int 1, .int 2])) g1 (.lst (ts4.map V.ref ++ [.ref u])) = H10 at sm10 hP10 hl10 tt10 ho10 hpl10 hll10 hh10 hg210
  refine ⟨.ref h, rfl, h, _, 1, .ref g2, rfl, rfl, SqL.of hh10, rfl, .inl ⟨rfl, _, SqL.of hg210⟩, g2, _, .int 0, rfl, rfl, hg210, sz_lt (by rw [LI, List.length_map]; omega), ?_⟩
  have A2 : ∀ b o, b ≠ g2 → H10 b = some o → upd H10 g2 (.lst (LI LF2 ++ [.int 0])) b = some o := fun b o n e => by rw [upd_ne n]; exact e
  have sm11 : Sm K H (upd H10 g2 (.lst (LI LF2 ++ [.int 0]))) := sm_mut sm10 (s7.fr (Fr.of f2)) hg210
  have hP11 := A2 _ _ (ne_of hP7 f2) hP10
  have hl11 := A2 _ _ (ne_of hl7 f2) hl10
  have tt11 : TupsAt K (upd H10 g2 (.lst (LI LF2 ++ [.int 0]))) ts4 PS4 := tt10.upd hg210
  have ho11 := A2 _ _ (p8 hg2 no1) ho10
  have hpl11 := A2 _ _ (p8 hg2 npl8) hpl10
  have hll11 := A2 _ _ (p8 hg2 nll8) hll10
  generalize upd H10 g2 (.lst (LI LF2 ++ [.int 0])) = H11 at sm11 hP11 hl11 tt11 ho11 hpl11 hll11
  refine ⟨.ref o1, rfl, o1, _, dx1, _, .ref pl1, rfl, ho11, cls_Paired T, na_Paired_pairs T, rfl, .ref P, rfl, dT2 PS4, dT2 PS4, dp_t2 (SqL.of hpl11) tt11, dp_t2 (SqL.of hP11) tt11, shaped_dT2 _, shaped_dT2 _, false, by rw [eqv_dT2, decide_eq_true rfl]; rfl, iteF ?_⟩
  refine ⟨.ref o1, rfl, o1, _, dx1, _, .ref ll1, rfl, ho11, cls_Paired T, na_Paired_left T, rfl, .ref l1, rfl, dI LF2, dI LF2, dp_li (SqL.of hll11), dp_li (SqL.of hl11), shaped_dI _, shaped_dI _, false, by rw [eqv_dI, decide_eq_true rfl]; rfl, iteF ?_⟩
  refine ⟨.ref o1, rfl, o1, dx1, _, rfl, ho11, rfl, .ref a, rfl, _, _, rfl, o1, dx1, pl1, ll1, ts4, PS4, LF2, a, L, rfl, rfl, ho11, hpl11, tt11, hll11, sm11.seq hS, hg.len, by omega, by omega, fun H12 s12 => ?_⟩
  refine ⟨.ref a, rfl, .ref P, rfl, .ref l1, rfl, _, _, _, rfl, a, L, P, ts4, PS4, l1, LF2, rfl, (sm11.trans (sm_of s12)).seq hS, rfl, s12 _ _ hP11, tt11.same s12, by omega, rfl, s12 _ _ hl11, by omega, fun H13 s13 => ?_⟩
  exact ⟨_, _, rfl, _, rfl, rfl, q _ (sm11.trans (sm_of (s12.trans s13)))⟩
def sp_law (K : PySem.W.Frag) : Sp := sp1 fun x H Q _ => ∃ a ns, x = .ref a ∧ SqL K H a (LI ns) ∧ ns.length ≤ 63 ∧ TabK K H ∧ ∀ H', Q (.bl true) H'
theorem law_start {K : PySem.W.Frag} (H : Hp) (a : Addr) (ns : List Int) (hl : ns.length ≤ 63) (hT : ∀ p ∈ tf, H (He.cT K p).2 = some (.tbl #[])) (hS : SqL K H a (LI ns)) : sp_law K [.ref a] H (fun v _ => v = .bl true) fun _ _ _ => False :=
  ⟨_, rfl, a, ns, rfl, hS, hl, tabK_nil (hT _ (List.mem_singleton.mpr rfl)), fun _ => rfl⟩
theorem ok_law {fd : FuncData} (F : FunD K "law" "law" (defArgs s_law) (defBody s_law) (defScope s_law) [] [] (He.fAd K ("law", none)) fd) (T : Tp K mg base) : FnOk P w K mg base CX0 7 (He.ga K "law") fd ["_law_script"] (sp_law K) := by
  refine F.ok sc_law len1 (fun cdv A outer s H vs Q E hr h => ?_)
  refine ⟨_, PSs.nox (pss_cons (ps_set (i := 1) sc_law.nd rfl (Or.inl rfl) (pe_fn (k__law_heap T) (hr.mono (by decide)) (by rfl) pass0 (pa_cons (pv 0) pa_nil)))
      (pss_cons (ps_if (pt_not (pt_val (pe_fn0 (k__law_few_right T) (hr.mono (by decide)) (by rfl) pass0))) (pss_one (ps_ret pe_bl)) pss_nil)
      (pss_cons (ps_for PassesOwn.never rfl (pi_range1 (by rfl) (n_range T) (pa_cons pe_int pa_nil)) (pg_name (i := 2) sc_law.nd rfl (Or.inl rfl))
        (pss_cons (ps_set (i := 3) sc_law.nd rfl (Or.inl rfl) (pe_op op_add (pe_op op_add (pe_fn (k__law_cell_at T) (hr.mono (by decide)) (by rfl) pass0 (pa_cons (pv 0) (pa_cons (pv 2) pa_nil))) (pe_op op_mul pe_int (pv 2))) (pe_op op_mul pe_int (pe_fn (k__law_cell_at T) (hr.mono (by decide)) (by rfl) pass0 (pa_cons (pv 0) (pa_cons (pe_op op_add (pv 2) pe_int) pa_nil))))))
      (pss_cons (ps_if (PW.pt (pw_or (pt_not (pt_val (pe_fn (k__law_rows_right T) (hr.mono (by decide)) (by rfl) pass0 (pa_cons (pv 1) (pa_cons (pv 3) pa_nil))))) (pw_or1 (pt_not (pt_val (pe_fn (k__law_gaps_right T) (hr.mono (by decide)) (by rfl) pass0 (pa_cons (pv 1) (pa_cons (pv 3) pa_nil)))))))) (pss_one (ps_ret pe_bl)) pss_nil)
      (pss_one (ps_if (PW.pt (pw_or (pt_not (pt_val (pe_fn (k__law_pairs_right T) (hr.mono (by decide)) (by rfl) pass0 (pa_cons (pv 1) (pa_cons (pv 3) pa_nil))))) (pw_or1 (pt_not (pt_val (pe_fn (k__law_groups_right T) (hr.mono (by decide)) (by rfl) pass0 (pa_cons (pv 1) (pa_cons (pv 3) pa_nil)))))))) (pss_one (ps_ret pe_bl)) pss_nil)))))
      (pss_one (ps_ret pe_bl))))), ?_⟩
  obtain ⟨_, rfl, a, ns, rfl, hS, hlen, hT, q⟩ := h
  refine ⟨.ref a, rfl, _, rfl, a, ns, rfl, hS, hlen, fun H1 p L s1 np hp hL hz => ?_⟩
  have hg : Good L := ⟨by omega, fun z h => by have := hz z h; omega⟩
  have hzz : ∀ z ∈ L, z ≠ -1 := fun z h => by have := hz z h; omega
  have zL : L.length ≤ 63 := by omega
  refine ⟨rfl, fun H2 s2 => ⟨true, rfl, iteF ?_⟩⟩
  have s02 : Sm K H H2 := sm_of (s1.trans s2)
  have hp2 := s2 _ _ hp
  have hT2 := s02.tabs hT
  refine ⟨3, rfl, by decide, by decide, ?_⟩
  refine for_range (n := 3) (fun i σ H' => ∃ y2 y3, σ = [some (.ref a), some (.ref p), y2, y3] ∧ Sm K H2 H') ⟨_, _, rfl, Sm.refl⟩ ?_ ?_
  · rintro i σ H3 hi ⟨y2, y3, rfl, s3⟩
    have hS3 := (s02.trans s3).seq hS
    refine ⟨.ref a, rfl, _, rfl, _, _, rfl, a, ns, _, rfl, hS3, rfl, by omega, by omega, _, rfl, _, _, rfl, rfl, .inl ⟨by decide, by decide⟩, _, _, rfl, rfl, .ref a, rfl, _, rfl, _, _, rfl, rfl, _, _, rfl, a, ns, _, rfl, hS3, rfl, by omega, by omega, _, _, rfl, rfl, .inl ⟨by decide, by decide⟩, _, _, rfl, rfl, ?_⟩
    refine ⟨.ref p, rfl, _, rfl, _, _, rfl, p, L, _, rfl, SqL.of (s3.l hp2), hg, zL, s3.tabs hT2, rfl, fun H4 s4 => ⟨true, rfl, iteF ?_⟩⟩
    have r4 := s3.trans s4
    refine ⟨.ref p, rfl, _, rfl, _, _, rfl, p, L, _, rfl, SqL.of (r4.l hp2), hg, zL, hzz, r4.tabs hT2, rfl, fun H5 s5 => ⟨true, rfl, iteF ?_⟩⟩
    have r5 := r4.trans s5
    refine ⟨.ref p, rfl, _, rfl, _, _, rfl, p, L, _, rfl, SqL.of (r5.l hp2), hg, zL, r5.tabs hT2, rfl, fun H6 s6 => ⟨true, rfl, iteF ?_⟩⟩
    have r6 := r5.trans s6
    exact ⟨.ref p, rfl, _, rfl, _, _, rfl, p, L, _, rfl, SqL.of (r6.l hp2), hg, zL, rfl, fun H7 s7 => ⟨true, rfl, iteF ⟨_, _, rfl, r6.trans s7⟩⟩⟩
  · rintro σ H3 ⟨y2, y3, rfl, s3⟩
    exact q _
end
abbrev stepsN : Nat := 7000
abbrev levelN : Nat := 7
def loose0 : List PySem.Str := ["is_number", "check_heap", "check_number", "counts_of", "commonest", "by_count", "most_of", "room_for", "blocks_of", "spaced", "dealt", "grouped", "paired", "laid", "unlike", "ringed", "_law_cell_at", "_law_draw", "_law_heap", "_law_many", "_law_most", "_law_numbers", "_law_says", "_law_bent", "_law_unlike", "_law_rows_right", "_law_spaced", "_law_gaps_right", "_law_paired", "_law_pairs_right"]
def loose1 : List PySem.Str := ["_law_grouped", "_law_groups_right", "_law_few_right", "HeapError", "BadHeap", "BadNumber", "TooFew", "Answer", "Row", "Ring", "Much", "Spaced", "Paired", "Grouped", "GREATEST", "MOST", "THINGS"]
def looseN : List PySem.Str := loose0 ++ loose1
abbrev Rw : PySem.W.OpenRow := PySem.W.OpenLaw.row PySem.Challenge.rw_apartrow_k07_answers_by_hand
abbrev hk : PySem.W.Hook := He.hookX 6 fa fn [] tf exB
def ob (s : PySem.W.SharedT) : He.AlX := He.obsX 6 fa fn [] tf exB (HandSHeadRun.getT s)
theorem ob_eq (s : PySem.W.SharedT) : ob s = hk.obs s.abs := He.obsX_eq (HandSHeadRun.getT_eq s)
set_option maxHeartbeats 0 in
theorem run (w : World) : HandSHeadRun.RunEq Rw (PySem.W.view Rw.prog [54]) hk ob 7000 looseN w := by
  intro os
  kernel_rfl
theorem at_law {w : World} {h : Heap} {mg : Str → Option Value} {f : Addr} (Y : hk.says w h) (G : h.Ns mainGlobals mg) (hfa : mg ("law" : Str) = some (.ref f)) :
    ∃ K : PySem.W.Frag, K.In h ∧ LamX.LawAtS PySem.Challenge.rw_apartrow_k07_answers_by_hand w K CX0 7 63 "_law_script" mg f h := by
  obtain ⟨K, X, c⟩ := Y
  obtain ⟨fd, F⟩ := c.t.d.def_ 46 rfl
  have e := hfa.symm.trans (He.glo_ok X G (c.t.d.fact 47 (f := .glo "law") rfl))
  cases e
  refine ⟨K, X, fd, tf.map (He.cT K), sp_law K, fun p hp => ?_, fun p hp => ?_, fun p hp => ?_, ?_, fun H a ns hl hb hT hS => ?_, fun base X' G' tb => ?_⟩
  · obtain ⟨z, hz, rfl⟩ := List.mem_map.mp hp
    exact c.empty z hz
  · obtain ⟨z, hz, rfl⟩ := List.mem_map.mp hp
    exact c.out z hz
  · obtain ⟨z, hz, rfl⟩ := List.mem_map.mp hp
    exact PySem.W.codeHd_of_K X (c.hd z hz)
  · have b := FunD.bindsA (ps := ["_law_script"]) F fun _ _ _ _ _ _ us hl => match us, hl with | [_], _ => rfl
    exact fun s v => b s [v] rfl
  · exact law_start H a ns hl (fun p hp => hT _ (List.mem_map_of_mem hp)) hS
  · exact ok_law F ⟨c.t.d, c.more, ⟨base, X', G'⟩, fun p hp => tb _ (List.mem_map_of_mem hp)⟩
end Ap
open PySem PySem.W PySem.Calls PyProof.Rows
set_option maxHeartbeats 0 in
theorem PySem.Challenge.cw_apartrow_k07_answers_by_hand_holds : PySem.Challenge.rw_apartrow_k07_answers_by_hand.Holds := by
  w_on; o_law
  refine HandSHeadRun.head_any (r := OpenLaw.row PySem.Challenge.rw_apartrow_k07_answers_by_hand) (q := view (OpenLaw.row PySem.Challenge.rw_apartrow_k07_answers_by_hand).prog [54]) (H := Ap.hk) (ob := Ap.ob) (M := Ap.stepsN) (loose := Ap.looseN) (d := HandSHeadRun.topDef (OpenLaw.row PySem.Challenge.rw_apartrow_k07_answers_by_hand).prog 54) (kwd := []) Ap.ob_eq
    (by kernel_rfl) (fun s => by kernel_rfl) Ap.run (by kernel_rfl) (by kernel_rfl) (by kernel_rfl) (by rfl) (by first | assumption | decide +kernel) (by decide +kernel) ⟨rfl, rfl, rfl, rfl, rfl, by decide +kernel⟩ ?hw ?hc
  case hw => w_witness2
  case hc =>
    refine LamX.walk_ofTsE (l := PySem.Challenge.rw_apartrow_k07_answers_by_hand) (n := 63) (k := Ap.levelN) (x := "_law_script") (CX := fun _ => L2.CX0) rfl (by decide) (by kernel_rfl) ⟨rfl, by decide, by decide⟩ ?F (fun _ _ _ _ _ z => z)
    intro w mg fa h Y G hmg0
    have hmg : mg ("law" : PySem.Str) = some (.ref fa) := by
      have e : (HandSHeadRun.topDef (OpenLaw.row PySem.Challenge.rw_apartrow_k07_answers_by_hand).prog 54).name = ("law" : PySem.Str) := by kernel_rfl
      rw [← e]
      exact hmg0
    exact Ap.at_law Y G hmg
