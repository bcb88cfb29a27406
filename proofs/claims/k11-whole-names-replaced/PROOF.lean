import PyProof.Rows.All
import PySem.Str
import Wide.All
import OpenK.AllK
import Wide.FinOn
import HandS.ForMost
import HandS.Defaults
import HandS.Exc
import PySem.Challenge.RW_eitherside_k11_whole_names_replaced
import Lean
import KE.KStateDown
import HandS.Head0
import HandS.Head1
import HandS.Head2
import HandS.HeadEnd
import HandS.HeadHook1
import HandS.HeadHook2
import HandS.HeadHook3
import HandS.HeadHook4
import HandS.IsInst
import HandS.Deep
import HandS.Flow
import HandS.Star
import HandS.DictComp
import HandS.Strs
import HandS.ClsMeth
import HandS.WordsExc
import HandS.Walk
import KE.GoesEnum
import KE.DataFind
import HandS.SetFor
import HandS.Iter
import HandS.NoneIn
import HandS.MakeKwOnly
import HandS.Conv
import HandS.Small
set_option linter.all false
/-! The plain law: books as lists of entries, what they answer, and that it does not hang on names. -/
namespace K11
open PySem

structure Mth where
  side : Str
  cases : List (Str × Str)
  ending : Str
structure Ent where
  name : Str
  base : Option Str
  meths : List Mth

abbrev sSelf : Str := "self"
abbrev sOther : Str := "other"
abbrev sSuper : Str := "super"
abbrev sRaises : Str := "raises"
abbrev sFwd : Str := "forward"
abbrev sRef : Str := "reflected"
abbrev sInp : Str := "inplace"
abbrev sDec : Str := "decline"
def sides : List Str := [sFwd, sRef, sInp]
def reserved : List Str := [sSelf, sOther, sSuper, sRaises]
structure NameOk (x : Str) : Prop where
  lo : 1 ≤ x.length
  hi : x.length ≤ 6
  nr : x ∉ reserved
  ab : ∀ c ∈ x.cps.toList, 97 ≤ c ∧ c ≤ 122

def names (es : List Ent) : List Str := es.map (·.name)
def entOf (es : List Ent) (n : Str) : Option Ent := es.find? fun e => decide (e.name = n)
def parOf (es : List Ent) (n : Str) : Option (Option Str) := (entOf es n).map (·.base)
def ownOf (es : List Ent) (n s : Str) : Option Mth := (entOf es n).bind fun e => e.meths.find? fun m => decide (m.side = s)

inductive Ch (par : Str → Option (Option Str)) : Option Str → List Str → Prop
  | nil : Ch par none []
  | cons {n : Str} {b : Option Str} {l : List Str} : par n = some b → Ch par b l → Ch par (some n) (n :: l)
theorem Ch.det {par : Str → Option (Option Str)} {o : Option Str} {l : List Str} (h : Ch par o l) : ∀ {l' : List Str}, Ch par o l' → l = l' := by
  induction h with
  | nil => intro l' h'; cases h'; rfl
  | cons e _ ih =>
    intro l' h'
    cases h' with
    | cons e' h2 =>
      rw [e] at e'
      cases e'
      rw [ih h2]
def chF (par : Str → Option (Option Str)) : Nat → Option Str → List Str
  | _, none => []
  | 0, some _ => []
  | f + 1, some n => n :: chF par f ((par n).getD none)
def bases (es : List Ent) (n : Str) : List Str := chF (parOf es) es.length (some n)

/-- every base comes ahead -/
def BF : List Str → List Ent → Prop
  | _, [] => True
  | known, e :: es => (∀ b, e.base = some b → b ∈ known) ∧ BF (known ++ [e.name]) es

structure MethOk (ns : List Str) (m : Mth) : Prop where
  few : m.cases.length ≤ 6
  arg : ∀ c ∈ m.cases, c.1 ∈ ns
  res : ∀ c ∈ m.cases, c.2 ∈ ns ∨ c.2 = sSelf ∨ c.2 = sOther
  ed : m.ending = sDec ∨ m.ending = sSuper
/-- the sides of an entry's methods: some of the three, in their order -/
def SidesOk (ms : List Mth) : Prop := (ms.map (·.side)).Sublist sides
structure WF (es : List Ent) : Prop where
  few : es.length ≤ 7
  nd : (names es).Nodup
  ok : ∀ e ∈ es, NameOk e.name
  bf : BF [] es
  sd : ∀ e ∈ es, SidesOk e.meths
  ms : ∀ e ∈ es, ∀ m ∈ e.meths, MethOk (names es) m

/-! ### looking up -/
theorem entOf_some {es : List Ent} {n : Str} {e : Ent} (h : entOf es n = some e) : e ∈ es ∧ e.name = n :=
  by
  unfold entOf at h
  exact ⟨List.mem_of_find?_eq_some h, of_decide_eq_true (List.find?_some (p := fun e : Ent => decide (e.name = n)) h)⟩
theorem entOf_mem : ∀ {es : List Ent} {e : Ent}, (names es).Nodup → e ∈ es → entOf es e.name = some e
  | [], _, _, h => by cases h
  | x :: es, e, nd, h => by
    unfold entOf
    rw [List.find?_cons]
    have nd' : x.name ∉ names es ∧ (names es).Nodup := List.nodup_cons.mp nd
    rcases List.mem_cons.mp h with rfl | h
    · simp
    · have hne : ¬ x.name = e.name := fun z => nd'.1 (z ▸ List.mem_map_of_mem h)
      rw [decide_eq_false hne]
      exact entOf_mem nd'.2 h
theorem entOf_none {es : List Ent} {n : Str} (h : n ∉ names es) : entOf es n = none := by
  cases q : entOf es n with
  | none => rfl
  | some e =>
    obtain ⟨h1, h2⟩ := entOf_some q
    exact absurd (h2 ▸ List.mem_map_of_mem (f := (·.name)) h1) h
theorem entOf_has {es : List Ent} {n : Str} (h : n ∈ names es) : ∃ e, entOf es n = some e := by
  cases q : entOf es n with
  | some e => exact ⟨e, rfl⟩
  | none =>
    obtain ⟨e, he, hn⟩ := List.mem_map.mp h
    have := List.find?_eq_none.mp q e he
    simp [hn] at this
theorem entOf_iff {es : List Ent} {n : Str} {e : Ent} (nd : (names es).Nodup) : entOf es n = some e ↔ e ∈ es ∧ e.name = n :=
  ⟨entOf_some, fun ⟨h1, h2⟩ => h2 ▸ entOf_mem nd h1⟩
theorem entOf_perm {es es' : List Ent} (nd : (names es).Nodup) (p : es'.Perm es) (n : Str) : entOf es' n = entOf es n := by
  have nd' : (names es').Nodup := (p.map Ent.name).nodup_iff.mpr nd
  apply Option.ext
  intro e
  rw [entOf_iff nd', entOf_iff nd, p.mem_iff]

/-! ### the chain of bases -/
theorem BF.earlier : ∀ {es : List Ent} {known : List Str}, BF known es → ∀ {i : Nat} {e : Ent}, es[i]? = some e → ∀ {b : Str}, e.base = some b → b ∈ known ∨ ∃ j, j < i ∧ (names es)[j]? = some b
  | [], _, _, i, e, h, _, _ => by simp at h
  | x :: es, known, hb, 0, e, h, b, hbe => by
    simp at h
    subst h
    exact .inl (hb.1 b hbe)
  | x :: es, known, hb, i + 1, e, h, b, hbe => by
    have h' : es[i]? = some e := by simpa using h
    rcases BF.earlier hb.2 h' hbe with q | ⟨j, hj, q⟩
    · rcases List.mem_append.mp q with q | q
      · exact .inl q
      · refine .inr ⟨0, Nat.succ_pos _, ?_⟩
        have e2 : b = x.name := by simpa using q
        rw [e2]
        rfl
    · exact .inr ⟨j + 1, Nat.succ_lt_succ hj, by simpa [names] using q⟩
theorem chain_ok {es : List Ent} (nd : (names es).Nodup) (bf : BF [] es) : ∀ (i : Nat) (n : Str), (names es)[i]? = some n → ∀ f, i < f →
    Ch (parOf es) (some n) (chF (parOf es) f (some n)) ∧ ∀ x ∈ chF (parOf es) f (some n), ∃ j, j ≤ i ∧ (names es)[j]? = some x := by
  intro i
  induction i using Nat.strongRecOn with
  | ind i ih =>
    intro n hn f hf
    obtain ⟨f, rfl⟩ : ∃ g, f = g + 1 := ⟨f - 1, by omega⟩
    have hn' : (es.map (·.name))[i]? = some n := hn
    rw [List.getElem?_map] at hn'
    obtain ⟨e, he, hen⟩ := Option.map_eq_some_iff.mp hn'
    have hp : parOf es n = some e.base := by
      unfold parOf
      rw [← hen, entOf_mem nd (List.mem_of_getElem? he)]
      rfl
    show Ch _ _ (n :: chF (parOf es) f ((parOf es n).getD none)) ∧ ∀ x ∈ n :: chF (parOf es) f ((parOf es n).getD none), _
    rw [hp]
    show Ch _ _ (n :: chF (parOf es) f e.base) ∧ ∀ x ∈ n :: chF (parOf es) f e.base, _
    cases hb : e.base with
    | none =>
      have e0 : chF (parOf es) f none = [] := by cases f <;> rfl
      rw [e0]
      refine ⟨.cons (hb ▸ hp) .nil, fun x hx => ⟨i, Nat.le_refl _, ?_⟩⟩
      have : x = n := by simpa using hx
      rw [this]
      exact hn
    | some b =>
      rcases BF.earlier bf he hb with q | ⟨j, hj, q⟩
      · cases q
      · obtain ⟨h1, h2⟩ := ih j hj b q f (by omega)
        refine ⟨.cons (hb ▸ hp) h1, fun x hx => ?_⟩
        rcases List.mem_cons.mp hx with rfl | hx
        · exact ⟨i, Nat.le_refl _, hn⟩
        · obtain ⟨k, hk, z⟩ := h2 x hx
          exact ⟨k, by omega, z⟩
theorem bases_ch {es : List Ent} (w : WF es) {n : Str} (h : n ∈ names es) : Ch (parOf es) (some n) (bases es n) := by
  obtain ⟨i, hi, e⟩ := List.mem_iff_getElem.mp h
  have e2 : (names es)[i]? = some n := by rw [List.getElem?_eq_getElem hi, e]
  exact (chain_ok w.nd w.bf i n e2 es.length (by simpa [names] using hi)).1
theorem bases_in {es : List Ent} (w : WF es) {n x : Str} (h : n ∈ names es) (hx : x ∈ bases es n) : x ∈ names es := by
  obtain ⟨i, hi, e⟩ := List.mem_iff_getElem.mp h
  have e2 : (names es)[i]? = some n := by rw [List.getElem?_eq_getElem hi, e]
  obtain ⟨j, _, q⟩ := (chain_ok w.nd w.bf i n e2 es.length (by simpa [names] using hi)).2 x hx
  exact List.mem_of_getElem? q
theorem bases_of_ch {es : List Ent} (w : WF es) {n : Str} {l : List Str} (h : n ∈ names es) (c : Ch (parOf es) (some n) l) : bases es n = l := (bases_ch w h).det c
theorem chF_length (par : Str → Option (Option Str)) : ∀ (f : Nat) (o : Option Str), (chF par f o).length ≤ f
  | 0, none => by simp [chF]
  | 0, some _ => by simp [chF]
  | f + 1, none => by simp [chF]
  | f + 1, some n => by simp [chF, chF_length par f]
theorem bases_length (es : List Ent) (n : Str) : (bases es n).length ≤ es.length := chF_length _ _ _
/-- a chain has no name twice -/
theorem Ch.nodup {par : Str → Option (Option Str)} : ∀ {l : List Str} {o : Option Str}, Ch par o l → l.Nodup := by
  intro l
  induction h : l.length using Nat.strongRecOn generalizing l with
  | ind k ih =>
    intro o c
    cases c with
    | nil => exact List.nodup_nil
    | @cons n b t e c' =>
      refine List.nodup_cons.mpr ⟨fun hm => ?_, ih t.length (by rw [← h]; simp) rfl c'⟩
      -- n stands in t: the chain from there is the whole, and shorter
      have key : ∀ {t : List Str} {o : Option Str}, Ch par o t → n ∈ t → ∃ t', t'.length ≤ t.length ∧ Ch par (some n) t' := by
        intro t
        induction t with
        | nil => intro o _ hm; cases hm
        | cons x t iht =>
          intro o c hm
          cases c with
          | cons e2 c2 =>
            by_cases hx : n = x
            · subst hx
              exact ⟨_, Nat.le_refl _, .cons e2 c2⟩
            · rcases List.mem_cons.mp hm with q | q
              · exact absurd q hx
              · obtain ⟨t', h1, h2⟩ := iht c2 q
                exact ⟨t', Nat.le_succ_of_le h1, h2⟩
      obtain ⟨t', h1, h2⟩ := key c' hm
      have := (Ch.cons e c').det h2
      rw [← this] at h1
      simp at h1
      omega
/-- behind a name of a chain: the chain from there -/
theorem Ch.suffix {par : Str → Option (Option Str)} : ∀ {pre l : List Str} {x : Str} {o : Option Str}, Ch par o (pre ++ x :: l) → Ch par (some x) (x :: l)
  | [], l, x, o, c => by
    cases c with
    | cons e c => exact .cons e c
  | p :: pre, l, x, o, c => by
    cases c with
    | cons e c => exact Ch.suffix (pre := pre) c

/-! ### answers -/
def findM (own : Str → Str → Option Mth) (s : Str) : List Str → Option (Str × Mth)
  | [] => none
  | h :: t => match own h s with
    | some m => some (h, m)
    | none => findM own s t
def methF (es : List Ent) (n s : Str) : Option (Str × Mth) := findM (ownOf es) s (bases es n)
def resultF (r own other : Str) : Str := if r = sSelf then own else if r = sOther then other else r
/-- the first case, from the place i on, whose argument stands in L -/
def caseF (L : List Str) : List (Str × Str) → Nat → Option (Nat × Str)
  | [], _ => none
  | c :: cs, i => if c.1 ∈ L then some (i, c.2) else caseF L cs (i + 1)
def askL (own : Str → Str → Option Mth) (L : List Str) (s name other : Str) : List Str → Option (Str × Nat × Str)
  | [] => none
  | h :: t => match own h s with
    | none => askL own L s name other t
    | some m => match caseF L m.cases 0 with
      | some (i, r) => some (h, i, resultF r name other)
      | none => if m.ending = sDec then none else askL own L s name other t
def askF (es : List Ent) (n s o : Str) : Option (Str × Nat × Str) := askL (ownOf es) (bases es o) s n o (bases es n)
def homeF (es : List Ent) (n s : Str) : Option Str := (methF es n s).map (·.1)
def priorF (es : List Ent) (l r : Str) : Bool :=
  if l = r ∨ l ∉ bases es r then false else match homeF es r sRef with
    | none => false
    | some h => !decide (some h = homeF es l sRef)
abbrev Ord := Str × Str × Str
def orderF (es : List Ent) (l r : Str) (way : Bool) : List Ord :=
  (if way then [(l, sInp, r)] else []) ++
    if priorF es l r then [(r, sRef, l), (l, sFwd, r)] else if l = r then [(l, sFwd, r)] else [(l, sFwd, r), (r, sRef, l)]
abbrev Att := Str × Str × Option (Str × Str × Nat)
def answerL (es : List Ent) : List Ord → List Att × Option Str
  | [] => ([], none)
  | (n, s, o) :: t => match homeF es n s with
    | none => answerL es t
    | some _ => match askF es n s o with
      | none => ((n, s, none) :: (answerL es t).1, (answerL es t).2)
      | some (h, i, r) => ([(n, s, some (h, s, i))], some r)
def answerF (es : List Ent) (l r : Str) (way : Bool) : List Att × Option Str := answerL es (orderF es l r way)

/-! ### other names -/
def renM (ρ : Str → Str) (m : Mth) : Mth := ⟨m.side, m.cases.map fun c => (ρ c.1, ρ c.2), m.ending⟩
def renE (ρ : Str → Str) (e : Ent) : Ent := ⟨ρ e.name, e.base.map ρ, e.meths.map (renM ρ)⟩
def movA (ρ : Str → Str) (a : Att) : Att := (ρ a.1, a.2.1, a.2.2.map fun p => (ρ p.1, p.2.1, p.2.2))
def movF (ρ : Str → Str) (a : List Att × Option Str) : List Att × Option Str := (a.1.map (movA ρ), a.2.map ρ)
def movO (ρ : Str → Str) (o : Ord) : Ord := (ρ o.1, o.2.1, ρ o.2.2)

/-- ρ renames the names ns: different names stay different, the new ones are names, the two words stay -/
structure Ren (ns : List Str) (ρ : Str → Str) : Prop where
  inj : ∀ x ∈ ns, ∀ y ∈ ns, ρ x = ρ y → x = y
  ok : ∀ x ∈ ns, NameOk (ρ x)
  self : ρ sSelf = sSelf
  other : ρ sOther = sOther

theorem WF.entIn {es : List Ent} (w : WF es) {n : Str} {e : Ent} (h : entOf es n = some e) : e ∈ es := (entOf_some h).1
theorem base_in {es : List Ent} (w : WF es) {e : Ent} (h : e ∈ es) {b : Str} (hb : e.base = some b) : b ∈ names es := by
  obtain ⟨i, hi, e1⟩ := List.mem_iff_getElem.mp h
  have e2 : es[i]? = some e := by rw [List.getElem?_eq_getElem hi, e1]
  rcases BF.earlier w.bf e2 hb with q | ⟨j, _, q⟩
  · cases q
  · exact List.mem_of_getElem? q
theorem entOf_ren {es : List Ent} {ρ : Str → Str} (inj : ∀ x ∈ names es, ∀ y ∈ names es, ρ x = ρ y → x = y) : ∀ {n : Str}, n ∈ names es → entOf (es.map (renE ρ)) (ρ n) = (entOf es n).map (renE ρ) := by
  intro n hn
  have gen : ∀ l : List Ent, (∀ e ∈ l, e ∈ es) → (l.map (renE ρ)).find? (fun e => decide (e.name = ρ n)) = (l.find? fun e => decide (e.name = n)).map (renE ρ) := by
    intro l
    induction l with
    | nil => intro _; rfl
    | cons x l ih =>
      intro hl
      rw [List.map_cons, List.find?_cons, List.find?_cons]
      have hx : x.name ∈ names es := List.mem_map_of_mem (hl x List.mem_cons_self)
      by_cases q : x.name = n
      · have q2 : (renE ρ x).name = ρ n := congrArg ρ q
        rw [decide_eq_true q, decide_eq_true q2]
        rfl
      · have q2 : ¬ (renE ρ x).name = ρ n := fun z => q (inj _ hx _ hn z)
        rw [decide_eq_false q, decide_eq_false q2]
        exact ih fun e he => hl e (List.mem_cons_of_mem _ he)
  exact gen es fun _ h => h

/-- es' tells the same as es, by the names ρ -/
structure Sim (ρ : Str → Str) (es es' : List Ent) : Prop where
  bs : ∀ n ∈ names es, bases es' (ρ n) = (bases es n).map ρ
  own : ∀ n ∈ names es, ∀ s, ownOf es' (ρ n) s = (ownOf es n s).map (renM ρ)

theorem find_ren (ρ : Str → Str) (s : Str) : ∀ ms : List Mth, (ms.map (renM ρ)).find? (fun m => decide (m.side = s)) = (ms.find? fun m => decide (m.side = s)).map (renM ρ)
  | [] => rfl
  | m :: ms => by
    rw [List.map_cons, List.find?_cons, List.find?_cons]
    show (match decide (m.side = s) with | true => _ | false => _) = _
    by_cases q : m.side = s
    · rw [decide_eq_true q]; rfl
    · rw [decide_eq_false q]
      exact find_ren ρ s ms
theorem names_ren (ρ : Str → Str) (es : List Ent) : names (es.map (renE ρ)) = (names es).map ρ := by
  unfold names
  rw [List.map_map, List.map_map]
  rfl
theorem sim {ρ : Str → Str} {es es' : List Ent} (w : WF es) (r : Ren (names es) ρ) (p : es'.Perm (es.map (renE ρ))) : Sim ρ es es' := by
  have ndR : (names (es.map (renE ρ))).Nodup := by
    rw [names_ren]
    have gen : ∀ l : List Str, (∀ x ∈ l, x ∈ names es) → l.Nodup → (l.map ρ).Nodup := by
      intro l
      induction l with
      | nil => intro _ _; exact List.nodup_nil
      | cons x l ih =>
        intro hl nd
        obtain ⟨n1, n2⟩ := List.nodup_cons.mp nd
        refine List.nodup_cons.mpr ⟨fun hm => ?_, ih (fun y hy => hl y (List.mem_cons_of_mem _ hy)) n2⟩
        obtain ⟨y, hy, e⟩ := List.mem_map.mp hm
        have := r.inj _ (hl y (List.mem_cons_of_mem _ hy)) _ (hl x List.mem_cons_self) e
        exact n1 (this ▸ hy)
    exact gen _ (fun _ h => h) w.nd
  have he : ∀ n ∈ names es, entOf es' (ρ n) = (entOf es n).map (renE ρ) := fun n hn => by rw [entOf_perm ndR p, entOf_ren r.inj hn]
  refine ⟨fun n hn => ?_, fun n hn s => ?_⟩
  · have hl : es'.length = es.length := by rw [p.length_eq, List.length_map]
    unfold bases
    rw [hl]
    have gen : ∀ (f : Nat) (o : Option Str), (∀ x, o = some x → x ∈ names es) → chF (parOf es') f (o.map ρ) = (chF (parOf es) f o).map ρ := by
      intro f
      induction f with
      | zero => intro o _; cases o <;> rfl
      | succ f ih =>
        intro o ho
        cases o with
        | none => rfl
        | some x =>
          have hx := ho x rfl
          obtain ⟨e, q⟩ := entOf_has hx
          have p1 : parOf es x = some e.base := by unfold parOf; rw [q]; rfl
          have p2 : parOf es' (ρ x) = some (e.base.map ρ) := by unfold parOf; rw [he x hx, q]; rfl
          show ρ x :: chF (parOf es') f ((parOf es' (ρ x)).getD none) = (x :: chF (parOf es) f ((parOf es x).getD none)).map ρ
          rw [p1, p2, List.map_cons]
          show ρ x :: chF (parOf es') f (e.base.map ρ) = ρ x :: (chF (parOf es) f e.base).map ρ
          rw [ih e.base fun y hy => base_in w (w.entIn q) hy]
    exact gen es.length (some n) fun x hx => by cases hx; exact hn
  · unfold ownOf
    rw [he n hn]
    cases q : entOf es n with
    | none => rfl
    | some e => exact find_ren ρ s e.meths

section
variable {ρ : Str → Str} {es es' : List Ent} (w : WF es) (r : Ren (names es) ρ) (S : Sim ρ es es')
include w r S
theorem own_ok {n s : Str} {m : Mth} (h : ownOf es n s = some m) : MethOk (names es) m := by
  unfold ownOf at h
  cases q : entOf es n with
  | none => rw [q] at h; cases h
  | some e =>
    rw [q] at h
    exact w.ms e (w.entIn q) m (List.mem_of_find?_eq_some h)
theorem findM_ren (s : Str) : ∀ l : List Str, (∀ x ∈ l, x ∈ names es) → findM (ownOf es') s (l.map ρ) = (findM (ownOf es) s l).map fun p => (ρ p.1, renM ρ p.2)
  | [], _ => rfl
  | h :: t, hl => by
    have ih := findM_ren s t fun x hx => hl x (List.mem_cons_of_mem _ hx)
    rw [List.map_cons]
    rw [findM, findM, S.own h (hl h List.mem_cons_self) s]
    cases q : ownOf es h s with
    | some m => rfl
    | none => exact ih
theorem methF_ren {n : Str} (hn : n ∈ names es) (s : Str) : methF es' (ρ n) s = (methF es n s).map fun p => (ρ p.1, renM ρ p.2) := by
  unfold methF
  rw [S.bs n hn]
  exact findM_ren w r S s _ fun x hx => bases_in w hn hx
theorem homeF_ren {n : Str} (hn : n ∈ names es) (s : Str) : homeF es' (ρ n) s = (homeF es n s).map ρ := by
  unfold homeF
  rw [methF_ren w r S hn]
  cases methF es n s <;> rfl
theorem findM_in {own : Str → Str → Option Mth} {s : Str} : ∀ {l : List Str} {p : Str × Mth}, findM own s l = some p → p.1 ∈ l
  | [], _, h => by cases h
  | h :: t, p, e => by
    unfold findM at e
    cases q : own h s with
    | some m =>
      rw [q] at e
      cases e
      exact List.mem_cons_self
    | none =>
      rw [q] at e
      exact List.mem_cons_of_mem _ (findM_in e)
theorem homeF_in {n : Str} (hn : n ∈ names es) {s h : Str} (e : homeF es n s = some h) : h ∈ names es := by
  unfold homeF at e
  obtain ⟨p, hp, rfl⟩ := Option.map_eq_some_iff.mp e
  exact bases_in w hn (findM_in w r S hp)
theorem mem_ren {x : Str} {l : List Str} (hx : x ∈ names es) (hl : ∀ y ∈ l, y ∈ names es) : ρ x ∈ l.map ρ ↔ x ∈ l := by
  constructor
  · intro h
    obtain ⟨y, hy, e⟩ := List.mem_map.mp h
    exact r.inj _ (hl y hy) _ hx e ▸ hy
  · exact fun h => List.mem_map_of_mem h
theorem priorF_ren {a b : Str} (ha : a ∈ names es) (hb : b ∈ names es) : priorF es' (ρ a) (ρ b) = priorF es a b := by
  unfold priorF
  rw [S.bs b hb, homeF_ren w r S hb, homeF_ren w r S ha]
  have e1 : (ρ a = ρ b ∨ ρ a ∉ (bases es b).map ρ) ↔ (a = b ∨ a ∉ bases es b) := by
    rw [mem_ren w r S ha fun y hy => bases_in w hb hy]
    exact ⟨fun h => h.imp (r.inj _ ha _ hb) id, fun h => h.imp (congrArg ρ) id⟩
  by_cases q : a = b ∨ a ∉ bases es b
  · rw [if_pos q, if_pos (e1.mpr q)]
  · rw [if_neg q, if_neg fun z => q (e1.mp z)]
    cases h1 : homeF es b sRef with
    | none => rfl
    | some h =>
      show (!decide (some (ρ h) = (homeF es a sRef).map ρ)) = !decide (some h = homeF es a sRef)
      cases h2 : homeF es a sRef with
      | none => rfl
      | some k =>
        have i1 := homeF_in w r S hb h1
        have i2 := homeF_in w r S ha h2
        have e2 : (some (ρ h) = (some k).map ρ) ↔ (some h = some k) :=
          ⟨fun z => congrArg some (r.inj _ i1 _ i2 (Option.some.inj z)), fun z => by cases z; rfl⟩
        rw [decide_eq_decide.mpr e2]
theorem caseF_ren {L : List Str} (hL : ∀ y ∈ L, y ∈ names es) : ∀ (cs : List (Str × Str)) (i : Nat), (∀ c ∈ cs, c.1 ∈ names es) →
    caseF (L.map ρ) (cs.map fun c => (ρ c.1, ρ c.2)) i = (caseF L cs i).map fun p => (p.1, ρ p.2)
  | [], _, _ => rfl
  | c :: cs, i, h => by
    rw [List.map_cons]
    unfold caseF
    have e := mem_ren w r S (h c List.mem_cons_self) hL
    by_cases q : c.1 ∈ L
    · rw [if_pos q, if_pos (e.mpr q)]; rfl
    · rw [if_neg q, if_neg fun z => q (e.mp z)]
      exact caseF_ren hL cs (i + 1) fun c hc => h c (List.mem_cons_of_mem _ hc)
theorem nameNe {x : Str} (hx : x ∈ names es) : ρ x ≠ sSelf ∧ ρ x ≠ sOther := by
  have h := (r.ok x hx).nr
  exact ⟨fun z => h (by rw [z]; simp [reserved]), fun z => h (by rw [z]; simp [reserved])⟩
theorem resultF_ren {x n o : Str} (hx : x ∈ names es ∨ x = sSelf ∨ x = sOther) (ns : ∀ y ∈ names es, y ≠ sSelf ∧ y ≠ sOther) : resultF (ρ x) (ρ n) (ρ o) = ρ (resultF x n o) := by
  unfold resultF
  rcases hx with hx | rfl | rfl
  · obtain ⟨h1, h2⟩ := nameNe w r S hx
    obtain ⟨h3, h4⟩ := ns x hx
    rw [if_neg h1, if_neg h2, if_neg h3, if_neg h4]
  · rw [r.self, if_pos rfl, if_pos rfl]
  · rw [r.other]
    by_cases q : sOther = sSelf
    · rw [if_pos q, if_pos q]
    · rw [if_neg q, if_neg q, if_pos rfl, if_pos rfl]
theorem caseF_mem {L : List Str} : ∀ {cs : List (Str × Str)} {i : Nat} {p : Nat × Str}, caseF L cs i = some p → ∃ c ∈ cs, c.2 = p.2
  | [], _, _, h => by cases h
  | c :: cs, i, p, h => by
    unfold caseF at h
    by_cases q : c.1 ∈ L
    · rw [if_pos q] at h
      cases h
      exact ⟨c, List.mem_cons_self, rfl⟩
    · rw [if_neg q] at h
      obtain ⟨d, hd, e⟩ := caseF_mem h
      exact ⟨d, List.mem_cons_of_mem _ hd, e⟩
theorem askL_ren {L : List Str} (hL : ∀ y ∈ L, y ∈ names es) (s n o : Str) (ns : ∀ y ∈ names es, y ≠ sSelf ∧ y ≠ sOther) : ∀ l : List Str, (∀ x ∈ l, x ∈ names es) →
    askL (ownOf es') (L.map ρ) s (ρ n) (ρ o) (l.map ρ) = (askL (ownOf es) L s n o l).map fun p => (ρ p.1, p.2.1, ρ p.2.2)
  | [], _ => rfl
  | h :: t, hl => by
    rw [List.map_cons]
    unfold askL
    rw [S.own h (hl h List.mem_cons_self) s]
    have ih := askL_ren hL s n o ns t fun x hx => hl x (List.mem_cons_of_mem _ hx)
    cases q : ownOf es h s with
    | none => exact ih
    | some m =>
      have mo := own_ok w r S q
      show (match caseF (L.map ρ) (renM ρ m).cases 0 with | some (i, x) => _ | none => _) = Option.map _ (match caseF L m.cases 0 with | some (i, x) => _ | none => _)
      have ec := caseF_ren w r S hL m.cases 0 mo.arg
      show (match caseF (L.map ρ) (m.cases.map fun c => (ρ c.1, ρ c.2)) 0 with | some (i, x) => _ | none => _) = _
      rw [ec]
      cases q2 : caseF L m.cases 0 with
      | some p =>
        obtain ⟨i, x⟩ := p
        obtain ⟨c, hc, ex⟩ := caseF_mem w r S q2
        have ex : c.2 = x := ex
        show some (ρ h, i, resultF (ρ x) (ρ n) (ρ o)) = some (ρ h, i, ρ (resultF x n o))
        rw [resultF_ren w r S (ex ▸ mo.res c hc) ns]
      | none =>
        show (if m.ending = sDec then none else _) = Option.map _ (if m.ending = sDec then none else _)
        by_cases q3 : m.ending = sDec
        · rw [if_pos q3, if_pos q3]; rfl
        · rw [if_neg q3, if_neg q3]
          exact ih
theorem askF_ren {n o : Str} (hn : n ∈ names es) (ho : o ∈ names es) (s : Str) (ns : ∀ y ∈ names es, y ≠ sSelf ∧ y ≠ sOther) :
    askF es' (ρ n) s (ρ o) = (askF es n s o).map fun p => (ρ p.1, p.2.1, ρ p.2.2) := by
  unfold askF
  rw [S.bs n hn, S.bs o ho]
  exact askL_ren w r S (fun y hy => bases_in w ho hy) s n o ns _ fun x hx => bases_in w hn hx
theorem orderF_ren {a b : Str} (ha : a ∈ names es) (hb : b ∈ names es) (way : Bool) : orderF es' (ρ a) (ρ b) way = (orderF es a b way).map (movO ρ) := by
  unfold orderF
  rw [priorF_ren w r S ha hb]
  have e1 : (ρ a = ρ b) ↔ (a = b) := ⟨r.inj _ ha _ hb, congrArg ρ⟩
  cases way <;> cases priorF es a b <;> by_cases q : a = b <;> simp [q, e1, movO]
theorem answerL_ren (ns : ∀ y ∈ names es, y ≠ sSelf ∧ y ≠ sOther) : ∀ l : List Ord, (∀ x ∈ l, x.1 ∈ names es ∧ x.2.2 ∈ names es) → answerL es' (l.map (movO ρ)) = movF ρ (answerL es l)
  | [], _ => rfl
  | (n, s, o) :: t, hl => by
    have hx := hl _ List.mem_cons_self
    have ih := answerL_ren ns t fun x hx => hl x (List.mem_cons_of_mem _ hx)
    rw [List.map_cons]
    show answerL es' ((ρ n, s, ρ o) :: t.map (movO ρ)) = _
    unfold answerL
    rw [homeF_ren w r S hx.1 s, askF_ren w r S hx.1 hx.2 s ns]
    cases homeF es n s with
    | none => exact ih
    | some h =>
      simp only [Option.map_some]
      cases askF es n s o with
      | none =>
        show ((ρ n, s, none) :: (answerL es' (t.map (movO ρ))).1, (answerL es' (t.map (movO ρ))).2) = _
        rw [ih]
        rfl
      | some p => rfl
theorem answerF_ren (ns : ∀ y ∈ names es, y ≠ sSelf ∧ y ≠ sOther) {a b : Str} (ha : a ∈ names es) (hb : b ∈ names es) (way : Bool) : answerF es' (ρ a) (ρ b) way = movF ρ (answerF es a b way) := by
  unfold answerF
  rw [orderF_ren w r S ha hb]
  refine answerL_ren w r S ns _ fun x hx => ?_
  unfold orderF at hx
  have mem : x = (a, sInp, b) ∨ x = (b, sRef, a) ∨ x = (a, sFwd, b) := by
    rcases List.mem_append.mp hx with h | h
    · cases way
      · simp at h
      · simp at h; exact .inl h
    · cases hp : priorF es a b with
      | true =>
        rw [hp] at h
        simp at h
        rcases h with h | h
        · exact .inr (.inl h)
        · exact .inr (.inr h)
      | false =>
        rw [hp] at h
        by_cases q : a = b
        · rw [if_pos q] at h
          simp at h
          exact .inr (.inr h)
        · rw [if_neg q] at h
          simp at h
          rcases h with h | h
          · exact .inr (.inr h)
          · exact .inr (.inl h)
  rcases mem with rfl | rfl | rfl
  · exact ⟨ha, hb⟩
  · exact ⟨hb, ha⟩
  · exact ⟨ha, hb⟩
end
theorem WF.nsOk {es : List Ent} (w : WF es) : ∀ y ∈ names es, y ≠ sSelf ∧ y ≠ sOther := fun y hy => by
  obtain ⟨e, he, rfl⟩ := List.mem_map.mp hy
  have h := (w.ok e he).nr
  exact ⟨fun z => h (by rw [z]; simp [reserved]), fun z => h (by rw [z]; simp [reserved])⟩
end K11
set_option Elab.async false
set_option linter.all false
set_option maxRecDepth 100000
/-! The text by places. -/
namespace K11
open PySem L2
def top (i : Nat) : Stmt := PySem.Challenge.pw_eitherside_k11_whole_names_replaced.main.body.getD i (.Pass ⟨0, 0, 0, 0⟩)
abbrev sIsName0 : Stmt := top 15
abbrev sIsSide : Stmt := top 16
abbrev sIsEnd : Stmt := top 17
abbrev sIsOne : Stmt := top 18
abbrev sResult : Stmt := top 20
abbrev sAsk : Stmt := top 21
abbrev sHome : Stmt := top 22
abbrev sPrior : Stmt := top 23
abbrev sOrder : Stmt := top 24
abbrev sAnswer : Stmt := top 25
abbrev sIsName : Stmt := top 34
abbrev sIsCase : Stmt := top 35
abbrev sIsMeth : Stmt := top 36
abbrev sAreMeths : Stmt := top 37
abbrev sIsHead : Stmt := top 38
abbrev sCheckE : Stmt := top 39
abbrev sBook : Stmt := top 41
abbrev sInit : Stmt := inClass sBook 1
abbrev sCont : Stmt := inClass sBook 4
abbrev sFill : Stmt := inClass sBook 7
abbrev sClasses : Stmt := inClass sBook 11
abbrev sCheck : Stmt := inClass sBook 12
abbrev sBases : Stmt := inClass sBook 13
abbrev sBelongs : Stmt := inClass sBook 14
abbrev sMethod : Stmt := inClass sBook 15
abbrev sLBag : Stmt := top 43
abbrev sLTake : Stmt := top 44
abbrev sLNames : Stmt := top 45
abbrev sLMethod : Stmt := top 46
abbrev sLMethods : Stmt := top 47
abbrev sLEntries : Stmt := top 48
abbrev sLMap : Stmt := top 49
abbrev sLRenamed : Stmt := top 50
abbrev sLOrdered : Stmt := top 51
abbrev sLMoved : Stmt := top 52
abbrev sLClass : Stmt := top 53
abbrev sLaw : Stmt := top 54
/-- a def of the text -/
abbrev FnP (K : PySem.W.Frag) (x : Str) (st : Stmt) (f : Addr) (fd : FuncData) : Prop := FunD K x x (defArgs st) (defBody st) (defScope st) [] [] f fd
end K11
set_option Elab.async false
set_option linter.all false
set_option maxRecDepth 100000
set_option maxHeartbeats 0
/-! The head: what the top leaves, as facts by names. -/
namespace K11
open PySem PySem.Spec PyProof.Rows L2
def dOf (x : Str) (i : Nat) (kwd : List (Str × He.Dv) := []) : He.DefD := ⟨(x, none), x, x, defArgs (top i), defBody (top i), defScope (top i), [], kwd⟩
def dM (m q : Str) (j : Nat) (dfl : List He.Dv := []) : He.DefD := ⟨("Book", some m), m, q, defArgs (inClass sBook j), defBody (inClass sBook j), defScope (inClass sBook j), dfl, []⟩
def fn1 : List He.DefD := [dOf "is_class_name" 15, dOf "is_side" 16, dOf "is_ending" 17, dOf "is_one_of" 18, dOf "result_of" 20, dOf "ask" 21, dOf "home_of" 22, dOf "is_prior" 23, dOf "order_of" 24, dOf "answer" 25 [("inplace", .bl false)],
  dOf "is_name" 34, dOf "is_case" 35, dOf "is_method" 36, dOf "are_methods" 37, dOf "is_head" 38, dOf "check_entries" 39]
def fn2 : List He.DefD := [dM "__init__" "Book.__init__" 1 [.adr (He.dflAt ("Book", some "__init__") 0)], dM "__contains__" "Book.__contains__" 4, dM "fill" "Book.fill" 7, dM "classes" "Book.classes" 11, dM "check" "Book.check" 12, dM "bases" "Book.bases" 13, dM "belongs" "Book.belongs" 14, dM "method" "Book.method" 15]
def fn3 : List He.DefD := [dOf "_law_bag" 43, dOf "_law_take" 44, dOf "_law_names" 45, dOf "_law_method" 46, dOf "_law_methods" 47, dOf "_law_entries" 48, dOf "_law_map" 49, dOf "_law_renamed" 50, dOf "_law_ordered" 51, dOf "_law_moved" 52, dOf "_law_class_right" 53, dOf "law" 54]
def fn : List He.DefD := fn1 ++ (fn2 ++ fn3)
def gl1 : List Str := ["is_class_name", "is_side", "is_ending", "is_one_of", "result_of", "ask", "home_of", "is_prior", "order_of", "answer", "is_name", "is_case", "is_method", "are_methods", "is_head", "check_entries", "Book"]
def gl2 : List Str := ["_law_bag", "_law_take", "_law_names", "_law_method", "_law_methods", "_law_entries", "_law_map", "_law_renamed", "_law_ordered", "_law_moved", "_law_class_right", "law"]
def gl3 : List Str := ["RESERVED", "SIDES", "ENDINGS", "OWN_RESULTS"]
def fr : List Str := ["isinstance", "len", "str", "tuple", "list", "all", "range", "zip", "enumerate", "abs", "max", "min"]
def fa : List He.Fa := (gl1 ++ (gl2 ++ gl3)).map He.Fa.glo ++ (fr.map He.Fa.free ++ [.str "LETTERS" "abcdefghijklmnopqrstuvwxyz", .int "LONGEST_NAME" 6, .int "MOST_CASES" 6, .str "FORWARD" "forward", .str "REFLECTED" "reflected", .str "INPLACE" "inplace",
  .str "DECLINE" "decline", .str "SELF" "self", .str "OTHER" "other", .cls "Book", .noat "Book" "rows", .noat "Book" "parents", .noat "Book" "own", .meth "Book" "__contains__", .meth "Book" "fill", .meth "Book" "classes", .meth "Book" "check",
  .meth "Book" "bases", .meth "Book" "belongs", .meth "Book" "method", .mkr "Book"])
def ex0 (K : PySem.W.Frag) : Bool := He.tupB K "RESERVED" [.str "self", .str "other", .str "super", .str "raises"] && (He.tupB K "SIDES" [.str "forward", .str "reflected", .str "inplace"] && (He.tupB K "ENDINGS" [.str "decline", .str "super"] && He.tupB K "OWN_RESULTS" [.str "self", .str "other"]))
/-- a tuple of the top without an own dict -/
def bare (K : PySem.W.Frag) (x : Str) : Bool := match K.lookup (He.ga K x) with
  | some ⟨.type c, none, _, _⟩ => decide (c = "tuple")
  | _ => false
/-- Book.LIMIT is read as 10 -/
def limB (K : PySem.W.Frag) : Bool := PySem.W.readsIn K (He.ga K "Book") (.type "type") && (decide (PySem.W.specialIn K (.ref (He.ga K "Book")) "__getattribute__" = some (some (.builtin "type.__getattribute__"))) &&
  (match PySem.W.findCls K (.ref (He.ga K "Book")) (.type "type") "LIMIT" with
    | some (.val (.int 10 _)) => true
    | _ => false))
def ex (K : PySem.W.Frag) : Bool := bare K "SIDES" && (limB K && ex0 K)
abbrev R : PySem.W.OpenRow := PySem.W.OpenLaw.row PySem.Challenge.rw_eitherside_k11_whole_names_replaced
/-- what the module's names reach, and the interpreter's own table -/
def asK (g : Addr → Option Obj) (n : Nat) : List Addr := He.asD g n ++ [cStatics]
abbrev AlK : Type := He.AlD × Bool
def obsK (n : Nat) (g : Addr → Option Obj) : AlK := (He.obsD fa fn (He.frG g (asK g n)), ex (He.frG g (asK g n)))
def hk : PySem.W.Hook where
  α := AlK
  obs := fun s => obsK 5 s.heap.get?
  val := fun _ => (He.valD fn, true)
  says := fun _ h => ∃ K : PySem.W.Frag, K.In h ∧ He.SaysD fa fn K ∧ ex K = true
  of := fun _ _ e => ⟨_, He.frG_in, congrArg (fun z : AlK => z.1) e, congrArg (fun z : AlK => z.2) e⟩
  keeps := fun _ _ _ ⟨K, hK, c⟩ k => ⟨K, PySem.W.Frag.In.keeps hK k, c⟩
def ob (s : PySem.W.SharedT) : AlK := obsK 5 (HandSHeadRun.getT s)
theorem ob_eq (s : PySem.W.SharedT) : ob s = hk.obs s.abs := by
  have e : HandSHeadRun.getT s = s.abs.heap.get? := funext (HandSHeadRun.getT_eq s)
  show obsK 5 (HandSHeadRun.getT s) = obsK 5 s.abs.heap.get?
  rw [e]
def loose1 : List Str := ["_wall", "LETTERS", "LONGEST_NAME", "RESERVED", "FORWARD", "REFLECTED", "INPLACE", "SIDES", "DECLINE", "SUPER", "ENDINGS", "SELF", "OTHER", "OWN_RESULTS", "is_class_name", "is_side", "is_ending", "is_one_of", "result_of", "ask", "home_of", "is_prior", "order_of", "answer", "outcome"]
def loose2 : List Str := ["NoBook", "NoClass", "Table", "MOST_CASES", "is_name", "is_case", "is_method", "are_methods", "is_head", "check_entries", "show_method", "Book", "_law_bag", "_law_take", "_law_names", "_law_method", "_law_methods", "_law_entries", "_law_map", "_law_renamed", "_law_ordered", "_law_moved", "_law_class_right"]
def loose : List Str := loose1 ++ loose2
theorem run (w : World) : HandSHeadRun.RunEq R (PySem.W.view R.prog [54]) hk ob 4000 loose w := by
  intro os
  kernel_rfl
end K11
set_option Elab.async false
set_option linter.all false
set_option maxRecDepth 100000
/-! Short words for the walks: callees, data, heaps. -/
namespace K11
open PySem PySem.Spec PyProof.Rows L2

/-! ### callees -/
structure Cal (P : Program) (w : World) (K : PySem.W.Frag) (mg : Str → Option Value) (base : Heap) (x : Str) (k : Nat) (ps : List Str) (sp : Sp) : Prop where
  ex : ∃ f fd, FnOk P w K mg base CX0 k f fd ps sp ∧ mg x = some (.ref f) ∧ PySem.W.keepIn K (.ref f) = true ∧ Binds K fd ps []
/-- a method of Book -/
structure MCal (P : Program) (w : World) (K : PySem.W.Frag) (mg : Str → Option Value) (base : Heap) (C : Addr) (m : Str) (k : Nat) (ps : List Str) (sp : Sp) : Prop where
  ex : ∃ f fd, FnOk P w K mg base CX0 k f fd ps sp ∧ Meth K C m f ∧ Binds K fd ps []
def tCalF (sp : Sp) (t : TA) : TE := fun σ H Q => t σ H fun vs H1 => sp vs H1 Q E0
def tMCal (C : Addr) (m : Str) (sp : Sp) (ta : TE) (t : TA) : TE := fun σ H Q => ta σ H fun x H1 => ∃ a dx fs, x = .ref a ∧ H1 a = some (.ins C dx fs) ∧ fs.lookup m = none ∧ t σ H1 fun vs H2 => sp (x :: vs) H2 Q E0
section
variable {P : Program} {w : World} {K : PySem.W.Frag} {mg : Str → Option Value} {base : Heap} {k : Nat} {ps : List Str} {sp : Sp}
theorem cal_of {x : Str} {st : Stmt} {N : List Str} (F : ∃ f fd, FnP K x st f fd ∧ mg x = some (.ref f)) (S : FnScope N ps (defScope st)) (len : ∀ vs H Q E, sp vs H Q E → vs.length = ps.length)
    (hb : ∀ (kV doc pm : Value) (an : Option Addr) (cdv ct : Value) (us : List Value), us.length = ps.length → bindArgs (PySem.W.fnOf x x (defArgs st) (defBody st) (defScope st) .none kV doc pm an cdv ct) ⟨us, []⟩ = pure (ps.zip us))
    (hbody : ∀ (f : Addr) (cdv : Value) (A : Around) (outer : List Env) (s : Shared) (H : Hp) (vs : List V) (Q : VK) (E : XK), Room k (A.deeper (envOfC x (defScope st) s.heap.objs.size f cdv)) → sp vs H Q E →
      ∃ t, PSs (cxOf CX0 P w K mg base N x (defScope st) f cdv A outer s H E).nox (defBody st) t ∧ t { nx := fun _ H' => Q .non H', rt := Q } (start N vs) H) : Cal P w K mg base x (k + 1) ps sp := by
  obtain ⟨f, fd, F, g⟩ := F
  refine ⟨f, fd, F.ok S len fun cdv A outer s H vs Q E hr h => ?_, g, F.kp, F.bindsN hb⟩
  obtain ⟨t, h1, h2⟩ := hbody f cdv A outer s H vs Q E hr h
  exact ⟨t, h1.nox, h2⟩
theorem Cal.mono {x : Str} {j : Nat} (c : Cal P w K mg base x j ps sp) (h : j ≤ k) : Cal P w K mg base x k ps sp := by
  obtain ⟨f, fd, F, a, b, d⟩ := c.ex
  exact ⟨f, fd, F.mono h, a, b, d⟩
theorem mcal_of {x q : Str} {st : Stmt} {C : Addr} {N : List Str} (F : ∃ f fd, FunD K x q (defArgs st) (defBody st) (defScope st) [] [] f fd ∧ Meth K C x f) (S : FnScope N ps (defScope st)) (len : ∀ vs H Q E, sp vs H Q E → vs.length = ps.length)
    (hb : ∀ (kV doc pm : Value) (an : Option Addr) (cdv ct : Value) (us : List Value), us.length = ps.length → bindArgs (PySem.W.fnOf x q (defArgs st) (defBody st) (defScope st) .none kV doc pm an cdv ct) ⟨us, []⟩ = pure (ps.zip us))
    (hbody : ∀ (f : Addr) (cdv : Value) (A : Around) (outer : List Env) (s : Shared) (H : Hp) (vs : List V) (Q : VK) (E : XK), Room k (A.deeper (envOfC q (defScope st) s.heap.objs.size f cdv)) → sp vs H Q E →
      ∃ t, PSs (cxOf CX0 P w K mg base N q (defScope st) f cdv A outer s H E).nox (defBody st) t ∧ t { nx := fun _ H' => Q .non H', rt := Q } (start N vs) H) : MCal P w K mg base C x (k + 1) ps sp := by
  obtain ⟨f, fd, F, g⟩ := F
  refine ⟨f, fd, F.ok S len fun cdv A outer s H vs Q E hr h => ?_, g, F.bindsN hb⟩
  obtain ⟨t, h1, h2⟩ := hbody f cdv A outer s H vs Q E hr h
  exact ⟨t, h1.nox, h2⟩
theorem MCal.mono {C : Addr} {x : Str} {j : Nat} (c : MCal P w K mg base C x j ps sp) (h : j ≤ k) : MCal P w K mg base C x k ps sp := by
  obtain ⟨f, fd, F, a, b⟩ := c.ex
  exact ⟨f, fd, F.mono h, a, b⟩
end
section
variable {X : Cx} {k : Nat} {ps : List Str} {sp : Sp} {x m : Str} {e o : Expr} {es : List Expr} {t : TA} {ta : TE} {p pos apos : Pos} {C : Addr}
theorem pe_cal (c : Cal X.prog X.w X.K X.mg X.base x k ps sp) (hr : Room k X.A) (ha : PA X (e :: es) t) (hg : Gl X x := by rfl) (hdb : (x == ("__debug__" : Str)) = false := by decide)
    (he : starEach (e :: es) X.env = (false, eval e X.env) :: starEach es X.env := by rfl) (hpl : (backTo pos (starEach es X.env)).any (·.1) = false := by rfl) : PE X (.Call (.Name x p) (e :: es) [] pos) (tCalF sp t) := by
  obtain ⟨f, fd, F, hm, kp, b⟩ := c.ex
  have z := pe_call (p := p) (pos := pos) F hr hg hm kp b .nil (pass0 (X := X)) ha hdb he hpl
  refine ⟨fun pins s σ H Q I h => z.run pins s σ H Q I ?_⟩
  show t σ H fun vs H1 => sp (vs ++ []) H1 Q E0
  simp only [List.append_nil]
  exact h
theorem pe_mcal {pl : Sem Bool} (c : MCal X.prog X.w X.K X.mg X.base C m k ps sp) (hc : Cls X.K C) (hr : Room k X.A) (ho : PE X o ta) (ha : PA X (e :: es) t)
    (hst : starEach (e :: es) X.env = (false, eval e X.env) :: starEach es X.env := by rfl) (hpl : (backTo pos (starEach es X.env)).any (·.1) = false := by rfl)
    (ht : eval (.Call (.Attribute o m apos) (e :: es) [] pos) X.env = (do
      let ov ← eval o X.env
      standAt apos.atName
      let (f, first) ← holding [ov] (getMethod ov m pl)
      callWith pos f first (backTo pos (starEach (e :: es) X.env)) (backToKw pos (keywordEach [] X.env))) := by rfl) : PE X (.Call (.Attribute o m apos) (e :: es) [] pos) (tMCal C m sp ta t) := by
  obtain ⟨f, fd, F, hm, b⟩ := c.ex
  have z := pe_meth (pos := pos) (apos := apos) (pl := pl) ho hc hm F hr b .nil (pass0 (X := X)) ha hst hpl ht
  refine ⟨fun pins s σ H Q I h => z.run pins s σ H Q I ?_⟩
  show ta σ H fun x H1 => ∃ a dx fs, x = .ref a ∧ H1 a = some (.ins C dx fs) ∧ fs.lookup m = none ∧ t σ H1 fun vs H2 => sp (x :: (vs ++ [])) H2 Q E0
  simp only [List.append_nil]
  exact h
theorem pe_mcal0 {pl : Sem Bool} (c : MCal X.prog X.w X.K X.mg X.base C m k ps sp) (hc : Cls X.K C) (hr : Room k X.A) (ho : PE X o ta)
    (ht : eval (.Call (.Attribute o m apos) [] [] pos) X.env = (do
      let ov ← eval o X.env
      standAt apos.atName
      let (f, first) ← holding [ov] (getMethod ov m pl)
      callWith pos f first (backTo pos (starEach [] X.env)) (backToKw pos (keywordEach [] X.env))) := by rfl) : PE X (.Call (.Attribute o m apos) [] [] pos) (tMCal C m sp ta tNil) := by
  obtain ⟨f, fd, F, hm, b⟩ := c.ex
  have z := pe_meth0 (pos := pos) (apos := apos) (pl := pl) ho hc hm F hr b .nil (pass0 (X := X)) ht
  refine ⟨fun pins s σ H Q I h => z.run pins s σ H Q I ?_⟩
  show ta σ H fun x H1 => ∃ a dx fs, x = .ref a ∧ H1 a = some (.ins C dx fs) ∧ fs.lookup m = none ∧ tNil σ H1 fun vs H2 => sp (x :: (vs ++ [])) H2 Q E0
  simp only [List.append_nil]
  exact h
end

/-! ### data -/
abbrev D := PyData
def dCase (c : Str × Str) : D := .tuple [.str c.1, .str c.2]
def dMeth (m : Mth) : D := .tuple [.str m.side, .tuple (m.cases.map dCase), .str m.ending]
def dOpt : Option Str → D
  | none => .none
  | some x => .str x
def vOpt : Option Str → V
  | none => .non
  | some x => .str x
def dEnt (e : Ent) : D := .tuple [.str e.name, dOpt e.base, .tuple (e.meths.map dMeth)]
def dPlace : Option (Str × Str × Nat) → D
  | none => .none
  | some (h, s, i) => .tuple [.str h, .str s, .int (i : Int)]
def dAtt (a : Att) : D := .tuple [.str a.1, .str a.2.1, dPlace a.2.2]
def dAns (a : List Att × Option Str) : D := .tuple [.list (a.1.map dAtt), dOpt a.2]

section
variable {K : PySem.W.Frag} {H H' : Hp}
theorem Same.seqT {a : Addr} {xs : List V} (e : Same H H') (h : SqT K H a xs) : SqT K H' a xs := by
  rcases h with (h | ⟨o, h⟩) | h
  · exact .inl (.inl (e _ _ h))
  · exact .inl (.inr ⟨o, e _ _ h⟩)
  · exact .inr h
mutual
theorem Dp.same (e : Same H H') : ∀ {v : V} {d : D}, Dp K H v d → Dp K H' v d
  | _, _, .non => .non
  | _, _, .bl b => .bl b
  | _, _, .int i => .int i
  | _, _, .str x => .str x
  | _, _, .lst h a => .lst (e.seq h) (DpAll.same e a)
  | _, _, .tup h a => .tup (Same.seqT e h) (DpAll.same e a)
theorem DpAll.same (e : Same H H') : ∀ {vs : List V} {ds : List D}, DpAll K H vs ds → DpAll K H' vs ds
  | _, _, .nil => .nil
  | _, _, .cons a b => .cons (Dp.same e a) (DpAll.same e b)
end
theorem DpAll.length : ∀ {vs : List V} {ds : List D}, DpAll K H vs ds → vs.length = ds.length
  | _, _, .nil => rfl
  | _, _, .cons _ b => congrArg Nat.succ (DpAll.length b)
theorem DpAll.get : ∀ {vs : List V} {ds : List D}, DpAll K H vs ds → ∀ {i : Nat} {v : V}, vs[i]? = some v → ∃ d, ds[i]? = some d ∧ Dp K H v d
  | _, _, .nil, i, v, h => by simp at h
  | _, _, .cons a b, 0, v, h => by simp at h; subst h; exact ⟨_, rfl, a⟩
  | _, _, .cons a b, i + 1, v, h => by
    obtain ⟨d, h1, h2⟩ := DpAll.get b (i := i) (v := v) (by simpa using h)
    exact ⟨d, by simpa using h1, h2⟩
theorem DpAll.append : ∀ {vs ws : List V} {ds es : List D}, DpAll K H vs ds → DpAll K H ws es → DpAll K H (vs ++ ws) (ds ++ es)
  | _, _, _, _, .nil, h => h
  | _, _, _, _, .cons a b, h => .cons a (DpAll.append b h)
theorem DpAll.one {v : V} {d : D} (h : Dp K H v d) : DpAll K H [v] [d] := .cons h .nil
theorem DpAll.strs : ∀ xs : List Str, DpAll K H (xs.map V.str) (xs.map PyData.str)
  | [] => .nil
  | x :: xs => .cons (.str x) (DpAll.strs xs)
theorem DpAll.strs_of : ∀ {xs : List Str} {vs : List V}, DpAll K H vs (xs.map PyData.str) → vs = xs.map V.str
  | [], _, .nil => rfl
  | x :: xs, _, .cons (.str _) b => by rw [DpAll.strs_of b]; rfl
theorem Dp.opt {o : Option Str} : Dp K H (vOpt o) (dOpt o) := by
  cases o with
  | none => exact .non
  | some x => exact .str x
theorem Dp.opt_of {o : Option Str} {v : V} (h : Dp K H v (dOpt o)) : v = vOpt o := by
  cases o with
  | none => cases h; rfl
  | some x => cases h; rfl
theorem Dp.tup_of {v : V} {ds : List D} (h : Dp K H v (.tuple ds)) : ∃ a xs, v = .ref a ∧ SqT K H a xs ∧ DpAll K H xs ds := by
  cases h with
  | tup h a => exact ⟨_, _, rfl, h, a⟩
theorem Dp.lst_of {v : V} {ds : List D} (h : Dp K H v (.list ds)) : ∃ a xs, v = .ref a ∧ SqL K H a xs ∧ DpAll K H xs ds := by
  cases h with
  | lst h a => exact ⟨_, _, rfl, h, a⟩
/-- an entry as it stands -/
theorem ent_of {v : V} {e : Ent} (h : Dp K H v (dEnt e)) : ∃ a m, v = .ref a ∧ SqT K H a [.str e.name, vOpt e.base, .ref m] ∧ Dp K H (.ref m) (.tuple (e.meths.map dMeth)) := by
  obtain ⟨a, xs, rfl, h1, h2⟩ := Dp.tup_of h
  cases h2 with
  | cons a1 h2 => cases h2 with
    | cons a2 h2 => cases h2 with
      | cons a3 h2 =>
        cases h2
        cases a1
        cases Dp.opt_of a2
        obtain ⟨m, ys, rfl, h3, h4⟩ := Dp.tup_of a3
        exact ⟨a, m, rfl, h1, .tup h3 h4⟩
theorem meth_of {v : V} {m : Mth} (h : Dp K H v (dMeth m)) : ∃ a c, v = .ref a ∧ SqT K H a [.str m.side, .ref c, .str m.ending] ∧ Dp K H (.ref c) (.tuple (m.cases.map dCase)) := by
  obtain ⟨a, xs, rfl, h1, h2⟩ := Dp.tup_of h
  cases h2 with
  | cons a1 h2 => cases h2 with
    | cons a2 h2 => cases h2 with
      | cons a3 h2 =>
        cases h2
        cases a1
        cases a3
        obtain ⟨c, ys, rfl, h3, h4⟩ := Dp.tup_of a2
        exact ⟨a, c, rfl, h1, .tup h3 h4⟩
theorem case_of {v : V} {c : Str × Str} (h : Dp K H v (dCase c)) : ∃ a, v = .ref a ∧ SqT K H a [.str c.1, .str c.2] := by
  obtain ⟨a, xs, rfl, h1, h2⟩ := Dp.tup_of h
  cases h2 with
  | cons a1 h2 => cases h2 with
    | cons a2 h2 =>
      cases h2
      cases a1
      cases a2
      exact ⟨a, rfl, h1⟩
end

/-! ### heaps -/
/-- all that was tracked but what stands at b is as it was -/
def But (b : Addr) (H H' : Hp) : Prop := ∀ x o, x ≠ b → H x = some o → H' x = some o
theorem But.of {b : Addr} {H H' : Hp} (h : Same H H') : But b H H' := fun x o _ e => h x o e
theorem But.refl (b : Addr) (H : Hp) : But b H H := fun _ _ _ h => h
theorem But.trans {b : Addr} {H H1 H2 : Hp} (a : But b H H1) (c : But b H1 H2) : But b H H2 := fun x o n h => c x o n (a x o n h)
theorem same_new {H : Hp} {p : Addr} {o : HO} (h : H p = none) : Same H (upd H p o) := fun b u e => by
  rw [upd_ne (ne_of_none e h)]
  exact e
/-- what was new and is written -/
theorem same_over {H H' : Hp} {p : Addr} {o : HO} (hs : Same H H') (h : H p = none) : Same H (upd H' p o) := fun b u e => by
  rw [upd_ne (ne_of_none e h)]
  exact hs b u e
theorem but_over {b : Addr} {H H' : Hp} {p : Addr} {o : HO} (hs : But b H H') (h : H p = none) : But b H (upd H' p o) := fun x u n e => by
  rw [upd_ne (ne_of_none e h)]
  exact hs x u n e
theorem but_self {b : Addr} {H H' : Hp} {o : HO} (hs : But b H H') : But b H (upd H' b o) := fun x u n e => by
  rw [upd_ne n]
  exact hs x u n e

/-! ### tests on texts -/
theorem inV_strs (x : Str) : ∀ xs : List Str, inV (.str x) (xs.map V.str) = decide (x ∈ xs)
  | [] => rfl
  | y :: ys => by
    show (eqV (.str y) (.str x) || inV (.str x) (ys.map V.str)) = _
    rw [inV_strs x ys]
    show ((y == x) || decide (x ∈ ys)) = _
    by_cases h : x = y
    · subst h; simp
    · have h2 : ¬ y = x := fun z => h z.symm
      simp [h, h2]
theorem flat_strs (xs : List Str) : (xs.map V.str).all flatV = true := by
  rw [List.all_eq_true]
  intro v hv
  obtain ⟨x, _, rfl⟩ := List.mem_map.mp hv
  rfl
theorem is_str {K : PySem.W.Frag} : PySem.W.kitOne K (.type "str") (.type "str") = some true := kit_ty (by decide +kernel)
theorem is_tuple {K : PySem.W.Frag} : PySem.W.kitOne K (.type "tuple") (.type "tuple") = some true := kit_ty (by decide +kernel)
theorem sqT_ty {K : PySem.W.Frag} {H : Hp} {a : Addr} {xs : List V} (h : SqT K H a xs) : TyX K H (.ref a) (.type "tuple") := by
  rcases h with (h | ⟨o, h⟩) | ⟨o, its, n, h1, h2, _⟩
  · exact .base (.tup h)
  · exact .fTuple h
  · exact .kTuple h1 h2

/-! ### comprehensions that change nothing -/
theorem lc_pure {J : It} {n : Nat} {G : Hp → Prop} {Y : Nat → Hp → V → Hp → Prop} (w : Walk J n G Y) {g : TG} {te : TE} {vs : List Nat} {σ : L2.St} {H H1 : Hp} {D : Addr} {Qd : Hp → Prop} (zs : List V) (hn : zs.length = n) (hz : n ≤ 1000)
    (h1 : Same H H1) (hD : H1 D = none) (hG : ∀ H', Same H H' → G H') (hY : ∀ i H0 x H', Y i H0 x H' → Same H0 H')
    (hs : ∀ i x H0 H' (Z : VK), i < n → Same H H0 → Y i H0 x H' → (∀ y H4, zs[i]? = some y → Same H' H4 → Z y H4) →
      g x (wipe σ vs) H' fun σ2 H2 => wipe σ2 vs = wipe σ vs ∧ te σ2 H2 Z)
    (hd : ∀ H', Same H H' → H' D = some (.lst zs) → Qd H') :
    ∃ W : Nat → Nat → Hp → Prop, (∃ m, W 0 m (upd H1 D (.lst []))) ∧ ∀ i m H, W i m H →
      (J.stop i H ∧ Qd H) ∨ (J.go i H ∧ ∃ Nx : Hp → Prop, (∀ H', Nx H' → ∃ m', m' < m ∧ W (i + 1) m' H') ∧ ∀ x H', J.yld i H x H' → g x (wipe σ vs) H' fun σ2 H2 => wipe σ2 vs = wipe σ vs ∧ tYes σ2 H2 fun b H3 =>
        if b = true then te σ2 H3 fun y H4 => ∃ acc, H4 D = some (.lst acc) ∧ acc.length < sizeLine ∧ Nx (upd H4 D (.lst (acc ++ [y]))) else Nx H3) := by
  have hDn : H D = none := h1.free hD
  refine lc_it w (fun i H' => Same H H' ∧ H' D = some (.lst (zs.take i))) ⟨same_over h1 hDn, by rw [upd_same]; rfl⟩ (fun i H' _ p => hG H' p.1) (fun i x H0 H' hi ⟨p1, p2⟩ y => ?_) (fun H' ⟨p1, p2⟩ => hd H' p1 (by rw [p2, ← hn, List.take_length]))
  refine hs i x H0 H' (fun y H4 => ∃ acc, H4 D = some (.lst acc) ∧ acc.length < sizeLine ∧ _) hi p1 y fun z H4 hz2 s4 => ?_
  have e4 : H4 D = some (.lst (zs.take i)) := s4 _ _ (hY _ _ _ _ y _ _ p2)
  have hl : (zs.take i).length = i := by rw [List.length_take]; omega
  refine ⟨_, e4, by rw [hl]; exact small1000 (by omega), same_over ((p1.trans (hY _ _ _ _ y)).trans s4) hDn, ?_⟩
  rw [upd_same]
  have hi2 : i < zs.length := by omega
  rw [List.take_succ, hz2]
  rfl
theorem yAt_same {xs : List V} : ∀ i H0 x H', YAt xs i H0 x H' → Same H0 H' := fun _ _ _ _ h => h.1 ▸ Same.refl _
theorem yPair_same {xs ys : Nat → Option V} : ∀ i H0 x H', YPair xs ys i H0 x H' → Same H0 H' := fun _ _ _ _ ⟨_, _, _, _, h1, h2, _⟩ => h2 ▸ same_new h1

/-! ### data without lists, where one list or instance changes -/
mutual
def noL : D → Bool
  | .none => true
  | .bool _ => true
  | .int _ => true
  | .str _ => true
  | .tuple ds => noLs ds
  | .list _ => false
  | .dict _ => false
def noLs : List D → Bool
  | [] => true
  | d :: ds => noL d && noLs ds
end
theorem noLs_map {α : Type} {f : α → D} (h : ∀ x, noL (f x) = true) : ∀ l : List α, noLs (l.map f) = true
  | [] => rfl
  | x :: l => by
    rw [List.map_cons, noLs, h x, noLs_map h l]
    rfl
theorem noL_case (c : Str × Str) : noL (dCase c) = true := by simp [dCase, noL, noLs]
theorem noL_opt (o : Option Str) : noL (dOpt o) = true := by cases o <;> simp [dOpt, noL]
theorem noL_meth (m : Mth) : noL (dMeth m) = true := by simp [dMeth, noL, noLs, noLs_map noL_case]
theorem noL_ent (e : Ent) : noL (dEnt e) = true := by simp [dEnt, noL, noLs, noLs_map noL_meth, noL_opt]
/-- no tuple stands at b -/
def NoT (H : Hp) (b : Addr) : Prop := ∀ xs, ¬ Rd H b (.tup xs)
theorem NoT.ins {H : Hp} {b C dx : Addr} {fs : List (Str × V)} (h : H b = some (.ins C dx fs)) : NoT H b := by
  rintro xs (z | ⟨o, z⟩)
  · rw [h] at z; cases z
  · rw [h] at z; cases z
theorem NoT.lst {H : Hp} {b : Addr} {ys : List V} (h : H b = some (.lst ys)) : NoT H b := by
  rintro xs (z | ⟨o, z⟩)
  · rw [h] at z; cases z
  · rw [h] at z; cases z
theorem NoT.new {H : Hp} {b : Addr} (h : H b = none) : NoT H b := by
  rintro xs (z | ⟨o, z⟩)
  · rw [h] at z; cases z
  · rw [h] at z; cases z
theorem NoT.dk {H : Hp} {b : Addr} {kvs : List (Key × V)} (h : H b = some (.dK kvs)) : NoT H b := by
  rintro xs (z | ⟨o, z⟩)
  · rw [h] at z; cases z
  · rw [h] at z; cases z
theorem NoT.dt {H : Hp} {b : Addr} {kvs : List (List Key × V)} (h : H b = some (.dT kvs)) : NoT H b := by
  rintro xs (z | ⟨o, z⟩)
  · rw [h] at z; cases z
  · rw [h] at z; cases z
section
variable {K : PySem.W.Frag} {H H' : Hp} {b : Addr}
theorem But.seqT {a : Addr} {xs : List V} (n : NoT H b) (e : But b H H') (h : SqT K H a xs) : SqT K H' a xs := by
  rcases h with (h | ⟨o, h⟩) | h
  · exact .inl (.inl (e _ _ (fun z => n xs (.inl (z ▸ h))) h))
  · exact .inl (.inr ⟨o, e _ _ (fun z => n xs (.inr ⟨o, z ▸ h⟩)) h⟩)
  · exact .inr h
mutual
theorem Dp.but (n : NoT H b) (e : But b H H') : ∀ {v : V} {d : D}, noL d = true → Dp K H v d → Dp K H' v d
  | _, _, _, .non => .non
  | _, _, _, .bl b => .bl b
  | _, _, _, .int i => .int i
  | _, _, _, .str x => .str x
  | _, _, q, .lst h a => by cases q
  | _, _, q, .tup h a => .tup (But.seqT n e h) (DpAll.but n e (by simpa [noL] using q) a)
theorem DpAll.but (n : NoT H b) (e : But b H H') : ∀ {vs : List V} {ds : List D}, noLs ds = true → DpAll K H vs ds → DpAll K H' vs ds
  | _, _, _, .nil => .nil
  | _, _, q, .cons a c => by
    rw [noLs, Bool.and_eq_true] at q
    exact .cons (Dp.but n e q.1 a) (DpAll.but n e q.2 c)
end
end
end K11
set_option Elab.async false
set_option linter.all false
set_option maxRecDepth 100000
set_option maxHeartbeats 4000000
/-! The walks: names, sides, endings, results. -/
namespace K11
open PySem PySem.Spec PyProof.Rows L2

/-- what the module's names hold -/
structure Txt (K : PySem.W.Frag) (mg : Str → Option Value) : Prop where
  isi : mg "isinstance" = none
  len : mg "len" = none
  str : mg "str" = none
  tuple : mg "tuple" = none
  list : mg "list" = none
  all : mg "all" = none
  range : mg "range" = none
  zip : mg "zip" = none
  enumerate : mg "enumerate" = none
  abs : mg "abs" = none
  max : mg "max" = none
  min : mg "min" = none
  letters : ∃ t, mg "LETTERS" = some (.str "abcdefghijklmnopqrstuvwxyz" t)
  longest : ∃ t, mg "LONGEST_NAME" = some (.int 6 t)
  most : ∃ t, mg "MOST_CASES" = some (.int 6 t)
  fwd : ∃ t, mg "FORWARD" = some (.str sFwd t)
  ref : ∃ t, mg "REFLECTED" = some (.str sRef t)
  inp : ∃ t, mg "INPLACE" = some (.str sInp t)
  dec : ∃ t, mg "DECLINE" = some (.str sDec t)
  self : ∃ t, mg "SELF" = some (.str sSelf t)
  other : ∃ t, mg "OTHER" = some (.str sOther t)
  reserved : ∃ a, mg "RESERVED" = some (.ref a) ∧ ∀ H, SqT K H a (reserved.map V.str)
  sides : ∃ a, mg "SIDES" = some (.ref a) ∧ (∀ H, SqT K H a (sides.map V.str)) ∧ ∃ o, K.lookup a = some o ∧ o.cls = .type "tuple" ∧ o.dict = none
  endings : ∃ a, mg "ENDINGS" = some (.ref a) ∧ ∀ H, SqT K H a ([sDec, sSuper].map V.str)
  results : ∃ a, mg "OWN_RESULTS" = some (.ref a) ∧ ∀ H, SqT K H a ([sSelf, sOther].map V.str)

section
variable {P : Program} {w : World} {K : PySem.W.Frag} {mg : Str → Option Value} {base : Heap}
abbrev FunAt (K : PySem.W.Frag) (mg : Str → Option Value) (x : Str) (st : Stmt) : Prop := ∃ f fd, FnP K x st f fd ∧ mg x = some (.ref f)
theorem boot_isi : bootBuiltins "isinstance" = some (.builtin "isinstance") := by decide +kernel
theorem boot_all : bootBuiltins "all" = some (.builtin "all") := by decide +kernel
theorem boot_str : bootBuiltins "str" = some (.type "str") := by decide +kernel
theorem boot_tuple : bootBuiltins "tuple" = some (.type "tuple") := by decide +kernel
theorem boot_list : bootBuiltins "list" = some (.type "list") := by decide +kernel

section
variable {X : Cx} {e a b : Expr} {te ta tb : TE} {p p2 pos : Pos}
def rInS (K : PySem.W.Frag) : R2 := fun x y H Q => ∃ (s : Str) (q : Addr) (ss : List Str), x = .str s ∧ y = .ref q ∧ (SqL K H q (ss.map V.str) ∨ SqT K H q (ss.map V.str)) ∧ Q (.bl (decide (s ∈ ss))) H
def rNotInS (K : PySem.W.Frag) : R2 := fun x y H Q => ∃ (s : Str) (q : Addr) (ss : List Str), x = .str s ∧ y = .ref q ∧ (SqL K H q (ss.map V.str) ∨ SqT K H q (ss.map V.str)) ∧ Q (.bl (!decide (s ∈ ss))) H
theorem op_inS : OpR X (compareOp .In) (rInS X.K) := by
  intro pins s σ H x y v u Q I rx ry h
  obtain ⟨z, q, ss, rfl, rfl, hq, k⟩ := h
  refine op_in_seq pins s σ H _ _ v u Q I rx ry ⟨q, _, rfl, hq, rfl, flat_strs ss, ?_⟩
  rw [if_neg Bool.false_ne_true, inV_strs]
  exact k
theorem op_notInS : OpR X (compareOp .NotIn) (rNotInS X.K) := by
  intro pins s σ H x y v u Q I rx ry h
  obtain ⟨z, q, ss, rfl, rfl, hq, k⟩ := h
  refine op_notIn_seq pins s σ H _ _ v u Q I rx ry ⟨q, _, rfl, hq, rfl, flat_strs ss, ?_⟩
  rw [if_pos rfl, inV_strs]
  exact k
theorem call_isStr : CallR X (.builtin "isinstance") (fun xs H Q => ∃ z, xs = [.str z, .ty "str"] ∧ Q (.bl true) H) := fun pins s σ H xs us Q I r h => by
  obtain ⟨z, rfl, k⟩ := h
  exact call_isi pins s σ H _ us Q I r ⟨.str z, _, _, _, true, rfl, .ty "str", .base (.str z), is_str, k⟩
theorem call_isTup : CallR X (.builtin "isinstance") (fun xs H Q => ∃ a ys, xs = [.ref a, .ty "tuple"] ∧ SqT X.K H a ys ∧ Q (.bl true) H) := fun pins s σ H xs us Q I r h => by
  obtain ⟨a, ys, rfl, ht, k⟩ := h
  exact call_isi pins s σ H _ us Q I r ⟨.ref a, _, _, _, true, rfl, .ty "tuple", sqT_ty ht, is_tuple, k⟩
/-- isinstance(e, str), isinstance(e, tuple) -/
theorem pe_isStr (h1 : X.mg "isinstance" = none) (h2 : X.mg "str" = none) (he : PE X e te) (g1 : Gl X "isinstance" := by rfl) (g2 : Gl X "str" := by rfl)
    (hs : starEach [e, .Name "str" p2] X.env = (false, eval e X.env) :: starEach [.Name "str" p2] X.env := by rfl) :
    PE X (.Call (.Name "isinstance" p) [e, .Name "str" p2] [] pos) (tCB (fun xs H Q => ∃ z, xs = [.str z, .ty "str"] ∧ Q (.bl true) H) (tCons te (tCons (tC (.ty "str")) tNil))) :=
  pe_callB call_isStr g1 h1 boot_isi (pa_cons he (pa_cons (pe_bltn (pos := p2) g2 h2 boot_str (v := .ty "str") rfl) pa_nil) hs) (he := hs)
theorem pe_isTup (h1 : X.mg "isinstance" = none) (h2 : X.mg "tuple" = none) (he : PE X e te) (g1 : Gl X "isinstance" := by rfl) (g2 : Gl X "tuple" := by rfl)
    (hs : starEach [e, .Name "tuple" p2] X.env = (false, eval e X.env) :: starEach [.Name "tuple" p2] X.env := by rfl) :
    PE X (.Call (.Name "isinstance" p) [e, .Name "tuple" p2] [] pos) (tCB (fun xs H Q => ∃ a ys, xs = [.ref a, .ty "tuple"] ∧ SqT X.K H a ys ∧ Q (.bl true) H) (tCons te (tCons (tC (.ty "tuple")) tNil))) :=
  pe_callB call_isTup g1 h1 boot_isi (pa_cons he (pa_cons (pe_bltn (pos := p2) g2 h2 boot_tuple (v := .ty "tuple") rfl) pa_nil) hs) (he := hs)
end

def spSide : Sp := fun vs H Q _ => ∃ s : Str, vs = [.str s] ∧ Q (.bl (decide (s ∈ sides))) H
theorem scSide : FnScope ["value"] ["value"] (defScope sIsSide) := ⟨rfl, rfl, rfl, by decide +kernel, rfl, by decide +kernel, by decide +kernel⟩
theorem ok_side (T : Txt K mg) (F : FunAt K mg "is_side" sIsSide) : Cal P w K mg base "is_side" 1 ["value"] spSide := by
  obtain ⟨aS, mS, qS, _⟩ := T.sides
  refine cal_of F scSide (fun vs H Q E h => ?_) (fun _ _ _ _ _ _ us hl => match us, hl with | [_], _ => rfl) (fun f cdv A outer s H vs Q E hr h => ?_)
  · obtain ⟨x, rfl, _⟩ := h
    rfl
  · obtain ⟨x, rfl, k⟩ := h
    refine ⟨_, pss_one (ps_ret (pe_and (pe_isStr T.isi T.str (pv 0)) (pe_one (pe_cmpR op_inS (pv 0) (pe_glob (v := .ref aS) (by rfl) mS rfl) (by rfl))))), ?_⟩
    exact ⟨_, rfl, x, rfl, true, rfl, iteT ⟨_, rfl, x, aS, _, rfl, rfl, .inr (qS H), k⟩⟩
def spEnd : Sp := fun vs H Q _ => ∃ s : Str, vs = [.str s] ∧ Q (.bl (decide (s ∈ [sDec, sSuper]))) H
theorem scEnd : FnScope ["value"] ["value"] (defScope sIsEnd) := ⟨rfl, rfl, rfl, by decide +kernel, rfl, by decide +kernel, by decide +kernel⟩
theorem ok_end (T : Txt K mg) (F : FunAt K mg "is_ending" sIsEnd) : Cal P w K mg base "is_ending" 1 ["value"] spEnd := by
  obtain ⟨aS, mS, qS⟩ := T.endings
  refine cal_of F scEnd (fun vs H Q E h => ?_) (fun _ _ _ _ _ _ us hl => match us, hl with | [_], _ => rfl) (fun f cdv A outer s H vs Q E hr h => ?_)
  · obtain ⟨x, rfl, _⟩ := h
    rfl
  · obtain ⟨x, rfl, k⟩ := h
    refine ⟨_, pss_one (ps_ret (pe_and (pe_isStr T.isi T.str (pv 0)) (pe_one (pe_cmpR op_inS (pv 0) (pe_glob (v := .ref aS) (by rfl) mS rfl) (by rfl))))), ?_⟩
    exact ⟨_, rfl, x, rfl, true, rfl, iteT ⟨_, rfl, x, aS, _, rfl, rfl, .inr (qS H), k⟩⟩
def spOne (K : PySem.W.Frag) : Sp := fun vs H Q _ => ∃ (s : Str) (q : Addr) (ss : List Str), vs = [.str s, .ref q] ∧ (SqL K H q (ss.map V.str) ∨ SqT K H q (ss.map V.str)) ∧ Q (.bl (decide (s ∈ ss))) H
theorem scOne : FnScope ["value", "names"] ["value", "names"] (defScope sIsOne) := ⟨rfl, rfl, rfl, by decide +kernel, rfl, by decide +kernel, by decide +kernel⟩
theorem ok_one (T : Txt K mg) (F : FunAt K mg "is_one_of" sIsOne) : Cal P w K mg base "is_one_of" 1 ["value", "names"] (spOne K) := by
  refine cal_of F scOne (fun vs H Q E h => ?_) (fun _ _ _ _ _ _ us hl => match us, hl with | [_, _], _ => rfl) (fun f cdv A outer s H vs Q E hr h => ?_)
  · obtain ⟨x, q, ss, rfl, _⟩ := h
    rfl
  · obtain ⟨x, q, ss, rfl, hq, k⟩ := h
    refine ⟨_, pss_one (ps_ret (pe_and (pe_isStr T.isi T.str (pv 0)) (pe_one (pe_cmpR op_inS (pv 0) (pv 1) (by rfl))))), ?_⟩
    exact ⟨_, rfl, x, rfl, true, rfl, iteT ⟨_, rfl, _, rfl, x, q, ss, rfl, rfl, hq, k⟩⟩

/-! ### is_class_name -/
def letters : Str := "abcdefghijklmnopqrstuvwxyz"
theorem letters_in : ∀ c : Nat, c ∈ letters.cps.toList ↔ 97 ≤ c ∧ c ≤ 122 := by
  intro c
  have e : letters.cps.toList = (List.range 26).map (· + 97) := by decide +kernel
  rw [e, List.mem_map]
  constructor
  · rintro ⟨i, hi, rfl⟩
    have := List.mem_range.mp hi
    omega
  · intro h
    exact ⟨c - 97, List.mem_range.mpr (by omega), by omega⟩
def spName (K : PySem.W.Frag) : Sp := fun vs H Q _ => ∃ s : Str, vs = [.str s] ∧ NameOk s ∧ ∀ H', Same H H' → Q (.bl true) H'
theorem scName : FnScope ["value", "sign"] ["value"] (defScope sIsName0) := ⟨rfl, rfl, rfl, by decide +kernel, rfl, by decide +kernel, by decide +kernel⟩
theorem ok_name0 (T : Txt K mg) (F : FunAt K mg "is_class_name" sIsName0) : Cal P w K mg base "is_class_name" 1 ["value"] (spName K) := by
  obtain ⟨aR, mR, qR⟩ := T.reserved
  obtain ⟨tL, mL⟩ := T.letters
  obtain ⟨tM, mM⟩ := T.longest
  refine cal_of F scName (fun vs H Q E h => ?_) (fun _ _ _ _ _ _ us hl => match us, hl with | [_], _ => rfl) (fun f cdv A outer s H vs Q E hr h => ?_)
  · obtain ⟨x, rfl, _⟩ := h
    rfl
  · obtain ⟨x, rfl, ok, k⟩ := h
    refine ⟨_, pss_cons (ps_if (PW.pt (pw_or (pt_not (pt_val (pe_isStr T.isi T.str (pv 0))))
        (pw_or (pt_not (pt_chain op_le op_le pe_int (pe_callB call_len_str (by rfl) T.len PySem.boot_len (pa_cons (pv 0) pa_nil)) (pe_glob (v := .int 6) (by rfl) mM ⟨_, rfl⟩)))
        (pw_or1 (pt_cmpR op_inS (pv 0) (pe_glob (v := .ref aR) (by rfl) mR rfl) (by rfl)))))) (pss_one (ps_ret pe_bl)) pss_nil)
      (pss_one (ps_ret (pe_callB (cr_all rfl) (by rfl) T.all boot_all (pa_cons
        (pe_lc (own := [("sign", 1)]) (g := gName 1) (tt := tYes) rfl scName.nd (pi_str (pv 0)) (blkOk_by (N := ["value", "sign"]) (sc := defScope sIsName0) (by decide +kernel))
          (fun _ _ _ _ _ => pg_name (i := 1) scName.nd rfl (Or.inl rfl)) (fun _ _ _ _ _ => pts_nil) (fun _ _ _ _ _ => pe_cmpR op_in_sign (pv 1) (pe_glob (v := .str letters) (by rfl) mL ⟨_, rfl⟩) (by rfl))) pa_nil)))), ?_⟩
    have hlen : x.length ≤ sizeLine := Nat.le_trans ok.hi (by decide)
    refine ⟨_, rfl, x, rfl, true, rfl, iteF ?_⟩
    refine ⟨_, rfl, x, rfl, hlen, _, _, rfl, rfl, _, rfl, ?_⟩
    rw [decide_eq_true (show (1 : Int) ≤ (x.length : Int) by have := ok.lo; omega)]
    refine iteT ⟨_, _, rfl, rfl, _, rfl, ?_⟩
    rw [decide_eq_true (show ((x.length : Nat) : Int) ≤ 6 by have := ok.hi; omega)]
    refine iteF ?_
    refine ⟨_, rfl, x, aR, _, rfl, rfl, .inr (qR H), _, rfl, ?_⟩
    rw [decide_eq_false ok.nr]
    refine iteF ?_
    refine ⟨_, rfl, x, rfl, fun D hD => ?_⟩
    refine lc_pure (walk_str (z := x)) ((List.replicate x.cps.size true).map V.bl) (by simp) (Nat.le_trans ok.hi (by decide)) (Same.refl H) hD (fun _ _ => True.intro) (fun _ _ _ _ h => h.1 ▸ Same.refl _) ?_ ?_
    · rintro i y H0 H' Z hi s0 ⟨rfl, c, hc, rfl⟩ hZ
      refine ⟨rfl, _, rfl, c, letters, rfl, rfl, ?_⟩
      have hm : c ∈ x.cps.toList := by
        rw [Array.mem_toList_iff]
        exact Array.mem_of_getElem? hc
      rw [decide_eq_true ((letters_in c).mpr (ok.ab c hm))]
      exact hZ _ _ (by simp [hi]) (Same.refl _)
    · intro H' s' hD'
      refine ⟨D, _, rfl, .inl (.inl hD'), ?_⟩
      have e : (List.replicate x.cps.size true).all id = true := by simp
      rw [e]
      exact k H' s'
def spName' (K : PySem.W.Frag) : Sp := spName K
theorem scName2 : FnScope ["value"] ["value"] (defScope sIsName) := ⟨rfl, rfl, rfl, by decide +kernel, rfl, by decide +kernel, by decide +kernel⟩
theorem ok_name (F : FunAt K mg "is_name" sIsName) (c0 : Cal P w K mg base "is_class_name" 1 ["value"] (spName K)) : Cal P w K mg base "is_name" 2 ["value"] (spName K) := by
  refine cal_of F scName2 (fun vs H Q E h => ?_) (fun _ _ _ _ _ _ us hl => match us, hl with | [_], _ => rfl) (fun f cdv A outer s H vs Q E hr h => ?_)
  · obtain ⟨x, rfl, _⟩ := h
    rfl
  · obtain ⟨x, rfl, ok, k⟩ := h
    exact ⟨_, pss_one (ps_ret (pe_cal c0 hr (pa_cons (pv 0) pa_nil))), _, rfl, x, rfl, ok, k⟩

/-! ### result_of -/
def spResult : Sp := fun vs H Q _ => ∃ r o t : Str, vs = [.str r, .str o, .str t] ∧ Q (.str (resultF r o t)) H
theorem scResult : FnScope ["result", "own", "other"] ["result", "own", "other"] (defScope sResult) := ⟨rfl, rfl, rfl, by decide +kernel, rfl, by decide +kernel, by decide +kernel⟩
theorem ok_result (T : Txt K mg) (F : FunAt K mg "result_of" sResult) : Cal P w K mg base "result_of" 1 ["result", "own", "other"] spResult := by
  obtain ⟨tS, mS⟩ := T.self
  obtain ⟨tO, mO⟩ := T.other
  refine cal_of F scResult (fun vs H Q E h => ?_) (fun _ _ _ _ _ _ us hl => match us, hl with | [_, _, _], _ => rfl) (fun f cdv A outer s H vs Q E hr h => ?_)
  · obtain ⟨r, o, t, rfl, _⟩ := h
    rfl
  · obtain ⟨r, o, t, rfl, k⟩ := h
    refine ⟨_, pss_cons (ps_if (pt_cmpR op_eq (pv 0) (pe_glob (v := .str sSelf) (by rfl) mS ⟨_, rfl⟩) (nomark _)) (pss_one (ps_ret (pv 1))) pss_nil)
      (pss_one (ps_ret (pe_ifExp (pt_cmpR op_eq (pv 0) (pe_glob (v := .str sOther) (by rfl) mO ⟨_, rfl⟩) (nomark _)) (pv 2) (pv 0)))), ?_⟩
    refine ⟨_, rfl, rfl, _, rfl, ?_⟩
    unfold resultF at k
    have e1 : ∀ a b : Str, decide (V.str a = V.str b) = decide (a = b) := fun a b => decide_eq_decide.mpr ⟨fun h => V.str.inj h, congrArg V.str⟩
    rw [e1]
    by_cases h1 : r = sSelf
    · rw [decide_eq_true h1]
      rw [if_pos h1] at k
      exact iteT ⟨_, rfl, k⟩
    · rw [decide_eq_false h1]
      rw [if_neg h1] at k
      refine iteF ⟨_, rfl, rfl, _, rfl, ?_⟩
      rw [e1]
      by_cases h2 : r = sOther
      · rw [decide_eq_true h2]
        rw [if_pos h2] at k
        exact iteT ⟨_, rfl, k⟩
      · rw [decide_eq_false h2]
        rw [if_neg h2] at k
        exact iteF ⟨_, rfl, k⟩
end
end K11
set_option Elab.async false
set_option linter.all false
set_option maxRecDepth 100000
set_option maxHeartbeats 4000000
/-! The walks: what the entries of a book must be. -/
namespace K11
open PySem PySem.Spec PyProof.Rows L2

section
variable {K : PySem.W.Frag} {H : Hp}
theorem DpAll.map_get {α : Type} {f : α → D} {vs : List V} {l : List α} (h : DpAll K H vs (l.map f)) {i : Nat} {v : V} (e : vs[i]? = some v) : ∃ x, l[i]? = some x ∧ Dp K H v (f x) := by
  obtain ⟨d, h1, h2⟩ := DpAll.get h e
  rw [List.getElem?_map] at h1
  obtain ⟨x, h3, rfl⟩ := Option.map_eq_some_iff.mp h1
  exact ⟨x, h3, h2⟩
theorem DpAll.map_len {α : Type} {f : α → D} {vs : List V} {l : List α} (h : DpAll K H vs (l.map f)) : vs.length = l.length := by
  rw [DpAll.length h, List.length_map]
theorem DpAll.map_at {α : Type} {f : α → D} {vs : List V} {l : List α} (h : DpAll K H vs (l.map f)) {i : Nat} {x : α} (e : l[i]? = some x) : ∃ v, vs[i]? = some v ∧ Dp K H v (f x) := by
  have hi : i < vs.length := by
    rw [DpAll.map_len h]
    exact (List.getElem?_eq_some_iff.mp e).1
  obtain ⟨y, h1, h2⟩ := DpAll.map_get h (List.getElem?_eq_getElem hi)
  rw [e] at h1
  cases h1
  exact ⟨_, List.getElem?_eq_getElem hi, h2⟩
end
/-- the names as they are handed about: a list or a tuple of texts -/
abbrev SqS (K : PySem.W.Frag) (H : Hp) (q : Addr) (ss : List Str) : Prop := SqL K H q (ss.map V.str) ∨ SqT K H q (ss.map V.str)
theorem Same.sqS {K : PySem.W.Frag} {H H' : Hp} {q : Addr} {ss : List Str} (e : Same H H') (h : SqS K H q ss) : SqS K H' q ss := h.imp e.seq (Same.seqT e)
theorem repl_get {n i : Nat} (h : i < n) : ((List.replicate n true).map V.bl)[i]? = some (.bl true) := by
  rw [List.getElem?_map, List.getElem?_replicate, if_pos h]
  rfl
theorem two_le : 2 ≤ sizeLine := by decide
theorem three_le : 3 ≤ sizeLine := by decide

section
variable {P : Program} {w : World} {K : PySem.W.Frag} {mg : Str → Option Value} {base : Heap}
/-! ### is_case -/
def spCase (K : PySem.W.Frag) : Sp := fun vs H Q _ => ∃ (v : V) (c : Str × Str) (q : Addr) (ns : List Str), vs = [v, .ref q] ∧ Dp K H v (dCase c) ∧ SqS K H q ns ∧ c.1 ∈ ns ∧ (c.2 ∈ ns ∨ c.2 = sSelf ∨ c.2 = sOther) ∧ Q (.bl true) H
theorem scCase : FnScope ["value", "names"] ["value", "names"] (defScope sIsCase) := ⟨rfl, rfl, rfl, by decide +kernel, rfl, by decide +kernel, by decide +kernel⟩
theorem ok_case (T : Txt K mg) (F : FunAt K mg "is_case" sIsCase) (c1 : Cal P w K mg base "is_one_of" 1 ["value", "names"] (spOne K)) : Cal P w K mg base "is_case" 2 ["value", "names"] (spCase K) := by
  obtain ⟨aO, mO, qO⟩ := T.results
  refine cal_of F scCase (fun vs H Q E h => ?_) (fun _ _ _ _ _ _ us hl => match us, hl with | [_, _], _ => rfl) (fun f cdv A outer s H vs Q E hr h => ?_)
  · obtain ⟨v, c, q, ns, rfl, _⟩ := h
    rfl
  · obtain ⟨v, c, q, ns, rfl, hd, hq, h1, h2, k⟩ := h
    obtain ⟨a, rfl, ht⟩ := case_of hd
    refine ⟨_, pss_cons (ps_if (PW.pt (pw_or (pt_not (pt_val (pe_isTup T.isi T.tuple (pv 0))))
        (pw_or (pt_cmpR op_ne (pe_callB call_len_seq (by rfl) T.len PySem.boot_len (pa_cons (pv 0) pa_nil)) pe_int (nomark _))
        (pw_or1 (pt_not (pt_val (pe_cal c1 hr (pa_cons (pe_ix ix_tup (pv 0) pe_int (fun _ _ => rfl)) (pa_cons (pv 1) pa_nil))))))))) (pss_one (ps_ret pe_bl)) pss_nil)
      (pss_one (ps_ret (pe_or (pe_cal c1 hr (pa_cons (pe_ix ix_tup (pv 0) pe_int (fun _ _ => rfl)) (pa_cons (pv 1) pa_nil)))
        (pe_one (pe_cal c1 hr (pa_cons (pe_ix ix_tup (pv 0) pe_int (fun _ _ => rfl)) (pa_cons (pe_glob (v := .ref aO) (by rfl) mO rfl) pa_nil))))))), ?_⟩
    refine ⟨_, rfl, a, _, rfl, ht, true, rfl, iteF ?_⟩
    refine ⟨_, rfl, a, _, rfl, .inr ht, rfl, _, rfl, iteF ?_⟩
    refine ⟨_, rfl, a, _, _, _, rfl, rfl, ht, rfl, _, rfl, c.1, q, ns, rfl, hq, _, rfl, ?_⟩
    rw [decide_eq_true h1]
    refine iteF ⟨_, rfl, a, _, _, _, rfl, rfl, ht, rfl, _, rfl, c.2, q, ns, rfl, hq, _, rfl, ?_⟩
    by_cases h3 : c.2 ∈ ns
    · rw [decide_eq_true h3]
      exact iteT k
    · rw [decide_eq_false h3]
      refine iteF ⟨_, rfl, a, _, _, _, rfl, rfl, ht, rfl, c.2, aO, [sSelf, sOther], rfl, .inr (qO H), ?_⟩
      have h4 : c.2 ∈ [sSelf, sOther] := by
        rcases h2 with h2 | h2 | h2
        · exact absurd h2 h3
        · rw [h2]; exact List.mem_cons_self
        · rw [h2]; exact List.mem_cons_of_mem _ List.mem_cons_self
      rw [decide_eq_true h4]
      exact k

/-! ### is_method -/
def spMeth (K : PySem.W.Frag) : Sp := fun vs H Q _ => ∃ (v : V) (m : Mth) (q : Addr) (ns : List Str), vs = [v, .ref q] ∧ Dp K H v (dMeth m) ∧ SqS K H q ns ∧ m.side ∈ sides ∧ MethOk ns m ∧ ∀ H', Same H H' → Q (.bl true) H'
theorem scMeth : FnScope ["value", "names", "cases", "case"] ["value", "names"] (defScope sIsMeth) := ⟨rfl, rfl, rfl, by decide +kernel, rfl, by decide +kernel, by decide +kernel⟩
theorem ok_meth (T : Txt K mg) (F : FunAt K mg "is_method" sIsMeth) (cS : Cal P w K mg base "is_side" 1 ["value"] spSide) (cE : Cal P w K mg base "is_ending" 1 ["value"] spEnd) (cC : Cal P w K mg base "is_case" 2 ["value", "names"] (spCase K)) :
    Cal P w K mg base "is_method" 3 ["value", "names"] (spMeth K) := by
  obtain ⟨tM, mM⟩ := T.most
  refine cal_of F scMeth (fun vs H Q E h => ?_) (fun _ _ _ _ _ _ us hl => match us, hl with | [_, _], _ => rfl) (fun f cdv A outer s H vs Q E hr h => ?_)
  · obtain ⟨v, m, q, ns, rfl, _⟩ := h
    rfl
  · obtain ⟨v, m, q, ns, rfl, hd, hq, hside, ok, k⟩ := h
    obtain ⟨a, c, rfl, ht, hc⟩ := meth_of hd
    obtain ⟨_, cs, e, hct, hcs⟩ := Dp.tup_of hc
    cases e
    have hr1 : Room 1 _ := hr.mono (by decide)
    refine ⟨_, pss_cons (ps_if (PW.pt (pw_or (pt_not (pt_val (pe_isTup T.isi T.tuple (pv 0))))
        (pw_or (pt_cmpR op_ne (pe_callB call_len_seq (by rfl) T.len PySem.boot_len (pa_cons (pv 0) pa_nil)) pe_int (nomark _))
        (pw_or (pt_not (pt_val (pe_cal cS hr1 (pa_cons (pe_ix ix_tup (pv 0) pe_int (fun _ _ => rfl)) pa_nil))))
        (pw_or1 (pt_not (pt_val (pe_cal cE hr1 (pa_cons (pe_ix ix_tup (pv 0) pe_int (fun _ _ => rfl)) pa_nil))))))))) (pss_one (ps_ret pe_bl)) pss_nil)
      (pss_cons (ps_set (i := 2) scMeth.nd rfl (Or.inl rfl) (pe_ix ix_tup (pv 0) pe_int (fun _ _ => rfl)))
      (pss_one (ps_ret (pe_and (pe_isTup T.isi T.tuple (pv 2)) (pe_and (pe_cmpR op_le (pe_callB call_len_seq (by rfl) T.len PySem.boot_len (pa_cons (pv 2) pa_nil)) (pe_glob (v := .int 6) (by rfl) mM ⟨_, rfl⟩) (nomark _))
        (pe_one (pe_callB (cr_all rfl) (by rfl) T.all boot_all (pa_cons
          (pe_lc (own := [("case", 3)]) (g := gName 3) (tt := tYes) rfl scMeth.nd (pi_tup (pv 2)) (blkOk_by (N := ["value", "names", "cases", "case"]) (sc := defScope sIsMeth) (by decide +kernel))
            (fun _ _ _ _ _ => pg_name (i := 3) scMeth.nd rfl (Or.inl rfl)) (fun _ _ _ _ _ => pts_nil) (fun _ _ _ _ _ => pe_cal cC hr (pa_cons (pv 3) (pa_cons (pv 1) pa_nil)))) pa_nil)))))))), ?_⟩
    refine ⟨_, rfl, a, _, rfl, ht, true, rfl, iteF ?_⟩
    refine ⟨_, rfl, a, _, rfl, .inr ht, rfl, _, rfl, iteF ?_⟩
    refine ⟨_, rfl, a, _, _, _, rfl, rfl, ht, rfl, m.side, rfl, _, rfl, ?_⟩
    rw [decide_eq_true hside]
    refine iteF ⟨_, rfl, a, _, _, _, rfl, rfl, ht, rfl, m.ending, rfl, _, rfl, ?_⟩
    have he : m.ending ∈ [sDec, sSuper] := by
      rcases ok.ed with h | h
      · rw [h]; exact List.mem_cons_self
      · rw [h]; exact List.mem_cons_of_mem _ List.mem_cons_self
    rw [decide_eq_true he]
    refine iteF ⟨_, rfl, a, _, _, _, rfl, rfl, ht, rfl, ?_⟩
    have hlen : cs.length = m.cases.length := DpAll.map_len hcs
    refine ⟨_, rfl, c, cs, rfl, hct, true, rfl, iteT ?_⟩
    refine ⟨_, rfl, c, cs, rfl, .inr hct, _, _, rfl, rfl, _, rfl, ?_⟩
    rw [decide_eq_true (show ((cs.length : Nat) : Int) ≤ 6 by have := ok.few; omega)]
    refine iteT ⟨_, rfl, c, rfl, ⟨_, hct⟩, fun D hD => ?_⟩
    refine lc_pure walk_tup ((List.replicate cs.length true).map V.bl) (by simp) (by have := ok.few; omega) (Same.refl H) hD (fun _ s => Same.seqT s hct) yAt_same ?_ ?_
    · rintro i y H0 H' Z hi s0 ⟨rfl, hy⟩ hZ
      obtain ⟨cc, h1, h2⟩ := DpAll.map_get hcs hy
      have hm := List.mem_of_getElem? h1
      exact ⟨rfl, _, rfl, _, rfl, y, cc, q, ns, rfl, Dp.same s0 h2, Same.sqS s0 hq, ok.arg cc hm, ok.res cc hm, hZ _ _ (by simp [hi]) (Same.refl _)⟩
    · intro H' s' hD'
      refine ⟨D, _, rfl, .inl (.inl hD'), ?_⟩
      have e : (List.replicate cs.length true).all id = true := by simp
      rw [e]
      exact k H' s'

/-! ### are_methods -/
def placeF (s : Str) : Nat := if s = sFwd then 0 else if s = sRef then 1 else 2
theorem place_ok {s : Str} (h : s ∈ sides) : sides[placeF s]? = some s ∧ ∀ m, m < placeF s → sides[m]? ≠ some s := by
  have h' : s = sFwd ∨ s = sRef ∨ s = sInp := by simpa [sides] using h
  rcases h' with rfl | rfl | rfl
  · exact ⟨by decide +kernel, by decide +kernel⟩
  · exact ⟨by decide +kernel, by decide +kernel⟩
  · exact ⟨by decide +kernel, by decide +kernel⟩
theorem place_up {ss : List Str} (h : ss.Sublist sides) : (ss.map placeF).Pairwise (· < ·) := by
  have e : (sides.map placeF).Pairwise (· < ·) := by decide +kernel
  exact e.sublist (h.map placeF)
theorem sides_in {ms : List Mth} (h : SidesOk ms) {m : Mth} (hm : m ∈ ms) : m.side ∈ sides := h.subset (List.mem_map_of_mem hm)
theorem sides_few {ms : List Mth} (h : SidesOk ms) : ms.length ≤ 3 := by
  have := h.length_le
  rw [List.length_map] at this
  exact this
def places (ms : List Mth) : List V := ms.map fun m => V.int ((placeF m.side : Nat) : Int)
theorem cut1 (xs : List V) : cutV xs (some 1) none = xs.drop 1 := by
  unfold cutV
  have e : HT.sIx xs.length 0 (some 1) = min 1 xs.length := HT.sIx_nat xs.length 0 1
  rw [e, HT.sIx_none, List.take_of_length_le (by rw [List.length_drop]; exact Nat.le_refl _)]
  by_cases h : 1 ≤ xs.length
  · rw [Nat.min_eq_left h]
  · have h0 : xs = [] := List.eq_nil_of_length_eq_zero (by omega)
    rw [h0]
    rfl
def rIdx (K : PySem.W.Frag) : V → List V → Hp → VK → Prop := fun x xs H Q => ∃ p, ∃ ys : List Str, ∃ z j, x = .ref p ∧ xs = [.str z] ∧ SqT K H p (ys.map V.str) ∧ ys[j]? = some z ∧ (∀ m, m < j → ys[m]? ≠ some z) ∧ Q (.int (j : Nat)) H
theorem mt_idx {X : Cx} : MtR X "tuple.index" (rIdx X.K) := mt_tup_index
def spMeths (K : PySem.W.Frag) : Sp := fun vs H Q _ => ∃ (v : V) (ms : List Mth) (q : Addr) (ns : List Str), vs = [v, .ref q] ∧ Dp K H v (.tuple (ms.map dMeth)) ∧ SqS K H q ns ∧ SidesOk ms ∧ (∀ m ∈ ms, MethOk ns m) ∧ ∀ H', Same H H' → Q (.bl true) H'
theorem scMeths : FnScope ["value", "names", "places", "method", "one", "other"] ["value", "names"] (defScope sAreMeths) := ⟨rfl, rfl, rfl, by decide +kernel, rfl, by decide +kernel, by decide +kernel⟩
theorem ok_meths (T : Txt K mg) (F : FunAt K mg "are_methods" sAreMeths) (cM : Cal P w K mg base "is_method" 3 ["value", "names"] (spMeth K)) : Cal P w K mg base "are_methods" 4 ["value", "names"] (spMeths K) := by
  obtain ⟨aS, mS, qS, oS⟩ := T.sides
  refine cal_of F scMeths (fun vs H Q E h => ?_) (fun _ _ _ _ _ _ us hl => match us, hl with | [_, _], _ => rfl) (fun f cdv A outer s H vs Q E hr h => ?_)
  · obtain ⟨v, ms, q, ns, rfl, _⟩ := h
    rfl
  · obtain ⟨v, ms, q, ns, rfl, hd, hq, hs, ok, k⟩ := h
    obtain ⟨a, xs, rfl, ht, hxs⟩ := Dp.tup_of hd
    have hlen : xs.length = ms.length := DpAll.map_len hxs
    have hfew := sides_few hs
    refine ⟨_, pss_cons (ps_if (PW.pt (pw_or (pt_not (pt_val (pe_isTup T.isi T.tuple (pv 0))))
        (pw_or1 (pt_not (pt_val (pe_callB (cr_all rfl) (by rfl) T.all boot_all (pa_cons
          (pe_lc (own := [("method", 3)]) (g := gName 3) (tt := tYes) rfl scMeths.nd (pi_tup (pv 0)) (blkOk_by (N := ["value", "names", "places", "method", "one", "other"]) (sc := defScope sAreMeths) (by decide +kernel))
            (fun _ _ _ _ _ => pg_name (i := 3) scMeths.nd rfl (Or.inl rfl)) (fun _ _ _ _ _ => pts_nil) (fun _ _ _ _ _ => pe_cal cM hr (pa_cons (pv 3) (pa_cons (pv 1) pa_nil)))) pa_nil))))))) (pss_one (ps_ret pe_bl)) pss_nil)
      (pss_cons (ps_setLc (i := 2) (own := [("method", 3)]) (g := gName 3) (tt := tYes) (te := tBM K "tuple" (rIdx K) (tC (.ref aS)) (tCons (tOp (rIxT K) (tVar 3) (tC (.int 0))) tNil)) rfl scMeths.nd rfl rfl (sw_true rfl rfl rfl (by decide +kernel)) (pi_tup (pv 0)) (blkOk_by (N := ["value", "names", "places", "method", "one", "other"]) (sc := defScope sAreMeths) (by decide +kernel))
            (fun _ _ _ _ _ => pg_name (i := 3) scMeths.nd rfl (Or.inl rfl)) (fun _ _ _ _ _ => pts_nil) (fun _ _ _ _ _ => pe_bm PySem.F.plainAttrs_tuple PySem.F.slot_tuple_index PySem.F.type_tuple_index mt_idx (pe_glob (v := .ref aS) (by rfl) mS rfl) (pa_cons (pe_ix ix_tup (pv 3) pe_int (fun _ _ => rfl)) pa_nil)))
      (pss_one (ps_ret (pe_callB (cr_all rfl) (by rfl) T.all boot_all (pa_cons
          (pe_lc (own := [("one", 4), ("other", 5)]) (g := gTup K 2 (gCons (gName 4) (gCons (gName 5) gNil))) (tt := tYes) rfl scMeths.nd (pi_zip (by rfl) T.zip (pa_cons (pv 2) (pa_cons (pe_slice sl_list (pv 2) (po_some pe_int) po_none) pa_nil)))
            (blkOk_by (N := ["value", "names", "places", "method", "one", "other"]) (sc := defScope sAreMeths) (by decide +kernel))
            (fun _ _ _ _ _ => pg_tup rfl (pgs_cons (pg_name (i := 4) scMeths.nd rfl (Or.inl rfl)) (pgs_cons (pg_name (i := 5) scMeths.nd rfl (Or.inl rfl)) pgs_nil))) (fun _ _ _ _ _ => pts_nil) (fun _ _ _ _ _ => pe_cmpR op_lt (pv 4) (pv 5) (nomark _))) pa_nil))))), ?_⟩
    refine ⟨_, rfl, a, xs, rfl, ht, true, rfl, iteF ?_⟩
    refine ⟨_, rfl, a, rfl, ⟨_, ht⟩, fun D hD => ?_⟩
    refine lc_pure walk_tup ((List.replicate xs.length true).map V.bl) (by simp) (by omega) (Same.refl H) hD (fun _ s => Same.seqT s ht) yAt_same ?_ ?_
    · rintro i y H0 H' Z hi s0 ⟨rfl, hy⟩ hZ
      obtain ⟨m, h1, h2⟩ := DpAll.map_get hxs hy
      have hm := List.mem_of_getElem? h1
      exact ⟨rfl, _, rfl, _, rfl, y, m, q, ns, rfl, Dp.same s0 h2, Same.sqS s0 hq, sides_in hs hm, ok m hm, fun H4 s4 => hZ _ _ (by simp [hi]) s4⟩
    · intro H1 s1 hD1
      refine ⟨D, _, rfl, .inl (.inl hD1), true, ?_, ?_⟩
      · have e : (List.replicate xs.length true).all id = true := by simp
        rw [e]
      refine iteF ?_
      have ht1 := Same.seqT s1 ht
      refine ⟨_, rfl, a, rfl, ⟨_, ht1⟩, fun D2 hD2 => ?_⟩
      have hpl : (places ms).length = xs.length := by rw [hlen]; simp [places]
      refine lc_pure walk_tup (places ms) hpl (by omega) s1 hD2 (fun _ s => Same.seqT s ht) yAt_same ?_ ?_
      · rintro i y H0 H' Z hi s0 ⟨rfl, hy⟩ hZ
        obtain ⟨m, h1, h2⟩ := DpAll.map_get hxs hy
        have hm := List.mem_of_getElem? h1
        obtain ⟨b, c, rfl, hb, _⟩ := meth_of (Dp.same s0 h2)
        obtain ⟨p1, p2⟩ := place_ok (sides_in hs hm)
        refine ⟨rfl, .inr (.inl ⟨rfl, oS⟩), _, rfl, b, _, _, _, rfl, rfl, hb, rfl, aS, _, m.side, placeF m.side, rfl, rfl, qS _, p1, p2, hZ _ _ ?_ (Same.refl _)⟩
        unfold places
        rw [List.getElem?_map, h1]
        rfl
      · intro H2 s2 hD2'
        refine ⟨_, rfl, _, rfl, 1, rfl, D2, _, rfl, .inl (.inl hD2'), fun p hp => ?_⟩
        rw [cut1]
        have sp : Same H2 (upd H2 p (.lst ((places ms).drop 1))) := same_new hp
        have hL2 : SqL K (upd H2 p (.lst ((places ms).drop 1))) D2 (places ms) := .inl (.inl (sp _ _ hD2'))
        have hL3 : SqL K (upd H2 p (.lst ((places ms).drop 1))) p ((places ms).drop 1) := .inl (.inl upd_same)
        refine ⟨D2, p, _, _, rfl, hL2, hL3, fun D3 hD3 => ?_⟩
        refine lc_pure (walk_zip (n := (places ms).length - 1) (by rw [List.length_drop]; omega)) ((List.replicate ((places ms).length - 1) true).map V.bl) (by simp) (by omega) (Same.refl _) hD3 (fun _ s => ⟨s.seq hL2, s.seq hL3⟩) yPair_same ?_ ?_
        · rintro i y H0 H' Z hi s0 ⟨T, x1, x2, rfl, hT, rfl, hx1, hx2⟩ hZ
          have hx2' : (places ms)[i + 1]? = some x2 := by
            have hx3 : ((places ms).drop 1)[i]? = some x2 := hx2
            rw [List.getElem?_drop] at hx3
            rw [Nat.add_comm]
            exact hx3
          have at_ : ∀ {j : Nat} {x : V}, (places ms)[j]? = some x → ∃ hj : j < (ms.map (·.side)).length, x = .int ((placeF ((ms.map (·.side))[j]) : Nat) : Int) := fun {j x} h => by
            unfold places at h
            rw [List.getElem?_map] at h
            obtain ⟨m, h1, rfl⟩ := Option.map_eq_some_iff.mp h
            obtain ⟨h2, h3⟩ := List.getElem?_eq_some_iff.mp h1
            refine ⟨by simpa using h2, ?_⟩
            simp [h3]
          obtain ⟨j1, rfl⟩ := at_ hx1
          obtain ⟨j2, rfl⟩ := at_ hx2'
          have hlt : placeF ((ms.map (·.side))[i]) < placeF ((ms.map (·.side))[i + 1]) := by
            have hp := List.pairwise_iff_getElem.mp (place_up hs) i (i + 1) (by simpa using j1) (by simpa using j2) (Nat.lt_succ_self _)
            simpa using hp
          refine ⟨T, _, rfl, .inl (.inl upd_same), rfl, _, _, rfl, _, _, rfl, rfl, rfl, _, rfl, _, rfl, _, _, rfl, rfl, ?_⟩
          show Z (V.bl (decide (((placeF ((ms.map (·.side))[i]) : Nat) : Int) < ((placeF ((ms.map (·.side))[i + 1]) : Nat) : Int)))) _
          rw [decide_eq_true (show ((placeF ((ms.map (·.side))[i]) : Nat) : Int) < ((placeF ((ms.map (·.side))[i + 1]) : Nat) : Int) by omega)]
          exact hZ _ _ (repl_get hi) (Same.refl _)
        · intro H3 s3 hD3'
          refine ⟨D3, _, rfl, .inl (.inl hD3'), ?_⟩
          have e : (List.replicate ((places ms).length - 1) true).all id = true := by simp
          rw [e]
          exact k H3 ((s2.trans sp).trans s3)

/-! ### is_head -/
def spHead (K : PySem.W.Frag) : Sp := fun vs H Q _ => ∃ (v : V) (e : Ent) (q : Addr) (ns : List Str), vs = [v, .ref q] ∧ Dp K H v (dEnt e) ∧ SqS K H q ns ∧ NameOk e.name ∧ e.name ∉ ns ∧ (∀ b, e.base = some b → b ∈ ns) ∧ ∀ H', Same H H' → Q (.bl true) H'
theorem scHead : FnScope ["value", "known", "name", "base", "methods"] ["value", "known"] (defScope sIsHead) := ⟨rfl, rfl, rfl, by decide +kernel, rfl, by decide +kernel, by decide +kernel⟩
theorem ok_head (T : Txt K mg) (F : FunAt K mg "is_head" sIsHead) (cN : Cal P w K mg base "is_name" 2 ["value"] (spName K)) (c1 : Cal P w K mg base "is_one_of" 1 ["value", "names"] (spOne K)) : Cal P w K mg base "is_head" 3 ["value", "known"] (spHead K) := by
  refine cal_of F scHead (fun vs H Q E h => ?_) (fun _ _ _ _ _ _ us hl => match us, hl with | [_, _], _ => rfl) (fun f cdv A outer s H vs Q E hr h => ?_)
  · obtain ⟨v, e, q, ns, rfl, _⟩ := h
    rfl
  · obtain ⟨v, e, q, ns, rfl, hd, hq, ok, hn, hb, k⟩ := h
    obtain ⟨a, m, rfl, ht, hm⟩ := ent_of hd
    have hr1 : Room 1 _ := hr.mono (by decide)
    refine ⟨_, pss_cons (ps_if (PW.pt (pw_or (pt_not (pt_val (pe_isTup T.isi T.tuple (pv 0))))
        (pw_or1 (pt_cmpR op_ne (pe_callB call_len_seq (by rfl) T.len PySem.boot_len (pa_cons (pv 0) pa_nil)) pe_int (nomark _))))) (pss_one (ps_ret pe_bl)) pss_nil)
      (pss_cons (ps_asg (pv 0) (pg_tup rfl (pgs_cons (pg_name (i := 2) scHead.nd rfl (Or.inl rfl)) (pgs_cons (pg_name (i := 3) scHead.nd rfl (Or.inl rfl)) (pgs_cons (pg_name (i := 4) scHead.nd rfl (Or.inl rfl)) pgs_nil)))))
      (pss_one (ps_ret (pe_and (pe_cal cN hr (pa_cons (pv 2) pa_nil)) (pe_and (pe_cmpR op_notInS (pv 2) (pv 1) (by rfl))
        (pe_one (pe_or (pe_cmpR op_isN (pv 3) pe_non (nomark _)) (pe_one (pe_cal c1 hr1 (pa_cons (pv 3) (pa_cons (pv 1) pa_nil))))))))))), ?_⟩
    refine ⟨_, rfl, a, _, rfl, ht, true, rfl, iteF ?_⟩
    refine ⟨_, rfl, a, _, rfl, .inr ht, rfl, _, rfl, iteF ?_⟩
    refine ⟨_, rfl, a, _, rfl, ht, rfl, _, _, rfl, _, _, rfl, _, _, rfl, rfl, ?_⟩
    refine ⟨_, rfl, e.name, rfl, ok, fun H1 s1 => ⟨true, rfl, iteT ?_⟩⟩
    refine ⟨_, rfl, _, rfl, e.name, q, ns, rfl, rfl, Same.sqS s1 hq, _, rfl, ?_⟩
    rw [decide_eq_false hn]
    refine iteT ?_
    cases hbe : e.base with
    | none =>
      refine ⟨_, rfl, rfl, _, rfl, ?_⟩
      rw [decide_eq_true (show vOpt none = V.non from rfl)]
      exact iteT (k H1 s1)
    | some b =>
      refine ⟨_, rfl, rfl, _, rfl, ?_⟩
      rw [decide_eq_false (show ¬ vOpt (some b) = V.non from fun z => nomatch z)]
      refine iteF ⟨_, rfl, _, rfl, b, q, ns, rfl, Same.sqS s1 hq, ?_⟩
      rw [decide_eq_true (hb b hbe)]
      exact k H1 s1

/-! ### check_entries -/
theorem is_lt {K : PySem.W.Frag} : PySem.W.kitAny K (.type "list") [.type "list", .type "tuple"] = some true := kitAny_cons (b := true) (kit_ty (by decide +kernel)) (fun z => nomatch z) fun _ => rfl
/-- a list of entries, as it stands at r -/
def RowsAt (K : PySem.W.Frag) (H : Hp) (r : Addr) (es : List Ent) : Prop := ∃ xs, H r = some (.lst xs) ∧ DpAll K H xs (es.map dEnt)
theorem RowsAt.same {K : PySem.W.Frag} {H H' : Hp} {r : Addr} {es : List Ent} (h : RowsAt K H r es) (s : Same H H') : RowsAt K H' r es := by
  obtain ⟨xs, h1, h2⟩ := h
  exact ⟨xs, s _ _ h1, DpAll.same s h2⟩
def spCheckE (K : PySem.W.Frag) : Sp := fun vs H Q _ => ∃ (r : Addr) (es : List Ent), vs = [.ref r, .int 10] ∧ RowsAt K H r es ∧ WF es ∧ ∀ H', Same H H' → Q .non H'
theorem scCheckE : FnScope ["value", "most", "known", "position", "entry", "name", "base", "methods"] ["value", "most"] (defScope sCheckE) := ⟨rfl, rfl, rfl, by decide +kernel, rfl, by decide +kernel, by decide +kernel⟩
theorem BF.at {es : List Ent} : ∀ {known : List Str}, BF known es → ∀ {i : Nat} {e : Ent}, es[i]? = some e → ∀ b, e.base = some b → b ∈ known ++ (names es).take i := by
  intro known h i e he b hb
  rcases BF.earlier h he hb with q | ⟨j, hj, q⟩
  · exact List.mem_append_left _ q
  · refine List.mem_append_right _ (List.mem_iff_getElem?.mpr ⟨j, ?_⟩)
    rw [List.getElem?_take_of_lt hj]
    exact q
theorem ok_checkE (T : Txt K mg) (F : FunAt K mg "check_entries" sCheckE) (cH : Cal P w K mg base "is_head" 3 ["value", "known"] (spHead K)) (cM : Cal P w K mg base "are_methods" 4 ["value", "names"] (spMeths K)) :
    Cal P w K mg base "check_entries" 5 ["value", "most"] (spCheckE K) := by
  refine cal_of F scCheckE (fun vs H Q E h => ?_) (fun _ _ _ _ _ _ us hl => match us, hl with | [_, _], _ => rfl) (fun f cdv A outer s H vs Q E hr h => ?_)
  · obtain ⟨r, es, rfl, _⟩ := h
    rfl
  · obtain ⟨r, es, rfl, ⟨xs, hr0, hxs⟩, wf, k⟩ := h
    have hlen : xs.length = es.length := DpAll.map_len hxs
    have hfew := wf.few
    have hr3 : Room 3 _ := hr.mono (by decide)
    refine ⟨_, pss_cons (ps_if (PW.pt (pw_or (pt_not (pt_val (pe_callB call_isiT (by rfl) T.isi boot_isi (pa_cons (pv 0) (pa_cons (pe_tup (pa_cons (pe_bltn (by rfl) T.list boot_list (v := .ty "list") rfl) (pa_cons (pe_bltn (by rfl) T.tuple boot_tuple (v := .ty "tuple") rfl) pa_nil))) pa_nil)))))
        (pw_or1 (pt_cmpR op_gt (pe_callB call_len_seq (by rfl) T.len PySem.boot_len (pa_cons (pv 0) pa_nil)) (pv 1) (nomark _))))) (pss_one ps_never) pss_nil)
      (pss_cons (ps_set (i := 2) scCheckE.nd rfl (Or.inl rfl) (pe_lst pa_nil))
      (pss_cons (ps_for PassesOwn.never rfl (pi_enum (by rfl) T.enumerate (pa_cons (pv 0) pa_nil)) (pg_tup rfl (pgs_cons (pg_name (i := 3) scCheckE.nd rfl (Or.inl rfl)) (pgs_cons (pg_name (i := 4) scCheckE.nd rfl (Or.inl rfl)) pgs_nil)))
        (pss_cons (ps_if (pt_not (pt_val (pe_cal cH hr3 (pa_cons (pv 4) (pa_cons (pv 2) pa_nil))))) (pss_one ps_never) pss_nil)
        (pss_one (ps_expr (pe_bm PySem.F.plainAttrs_list PySem.F.slot_list_append PySem.F.type_list_append mt_append (pv 2) (pa_cons (pe_ix ix_tup (pv 4) pe_int (fun _ _ => rfl)) pa_nil))))))
      (pss_one (ps_for PassesOwn.never rfl (pi_enum (by rfl) T.enumerate (pa_cons (pv 0) pa_nil))
        (pg_tup rfl (pgs_cons (pg_name (i := 3) scCheckE.nd rfl (Or.inl rfl)) (pgs_cons (pg_tup rfl (pgs_cons (pg_name (i := 5) scCheckE.nd rfl (Or.inl rfl)) (pgs_cons (pg_name (i := 6) scCheckE.nd rfl (Or.inl rfl)) (pgs_cons (pg_name (i := 7) scCheckE.nd rfl (Or.inl rfl)) pgs_nil)))) pgs_nil)))
        (pss_one (ps_if (pt_not (pt_val (pe_cal cM hr (pa_cons (pv 7) (pa_cons (pv 2) pa_nil))))) (pss_one ps_never) pss_nil)))))), ?_⟩
    refine ⟨_, rfl, two_le, fun p hp => ?_⟩
    have sp : Same H (upd H p (.tup [.ty "list", .ty "tuple"])) := same_new hp
    refine ⟨.ref r, p, _, _, _, true, rfl, upd_same, .cons (.ty _) (.cons (.ty _) .nil), .base (.lst (sp _ _ hr0)), is_lt, true, rfl, iteF ?_⟩
    refine ⟨_, rfl, r, xs, rfl, .inl (.inl (.inl (sp _ _ hr0))), _, rfl, _, _, rfl, rfl, _, rfl, ?_⟩
    rw [decide_eq_false (show ¬ (10 : Int) < ((xs.length : Nat) : Int) by omega)]
    refine iteF ⟨Nat.zero_le _, fun kn hkn => ?_⟩
    generalize hH1 : upd H p (.tup [.ty "list", .ty "tuple"]) = H1 at sp hkn ⊢
    have hkn0 : H kn = none := sp.free hkn
    have nkr : r ≠ kn := ne_of_none (sp _ _ hr0) hkn
    -- the first loop
    refine ⟨_, rfl, r, xs, rfl, .inl (.inl (by rw [upd_ne nkr]; exact sp _ _ hr0)), for_it walk_enum (fun i σ H2 => ∃ (o1 o2 : Option V), σ = [some (.ref r), some (.int 10), some (.ref kn), o1, o2, none, none, none] ∧ Same H H2 ∧ H2 kn = some (.lst (((names es).take i).map V.str)))
      ⟨none, none, rfl, same_over sp hkn0, upd_same⟩ (fun i σ H2 _ ⟨_, _, _, s2, _⟩ => s2.seq (.inl (.inl hr0))) ?_ ?_⟩
    · rintro i y σ H2 H3 hi ⟨o1, o2, rfl, s2, hk2⟩ ⟨Tp, z1, z2, rfl, hT, rfl, hz1, hz2⟩
      cases hz1
      obtain ⟨e, he, hde⟩ := DpAll.map_get hxs hz2
      have hie : i < es.length := by omega
      have sT : Same H2 (upd H2 Tp (.tup [.int (i : Nat), z2])) := same_new hT
      have s3 := s2.trans sT
      refine ⟨Tp, _, rfl, .inl (.inl upd_same), rfl, _, _, rfl, _, _, rfl, rfl, ?_⟩
      have hnd := wf.nd
      have hnn : e.name ∉ (names es).take i := fun hm => by
        obtain ⟨j, hj⟩ := List.mem_iff_getElem?.mp hm
        have hji : j < i := by
          have := (List.getElem?_eq_some_iff.mp hj).1
          rw [List.length_take] at this
          omega
        rw [List.getElem?_take_of_lt hji] at hj
        have hi2 : (names es)[i]? = some e.name := by
          show (es.map (·.name))[i]? = _
          rw [List.getElem?_map, he]
          rfl
        have := nodup_ix hnd hj hi2
        omega
      have hdT := Dp.same s3 hde
      have hkT := sT _ _ hk2
      refine ⟨_, rfl, _, rfl, z2, e, kn, (names es).take i, rfl, hdT, .inl (.inl (.inl hkT)), wf.ok e (List.mem_of_getElem? he), hnn, fun b hb => by simpa using BF.at wf.bf he b hb, fun H4 s4 => ⟨true, rfl, iteF ?_⟩⟩
      have hk4 := s4 _ _ hkT
      obtain ⟨a, m, ez, ht, _⟩ := ent_of (Dp.same s4 hdT)
      refine ⟨_, rfl, .inl ⟨rfl, _, .inl (.inl hk4)⟩, _, rfl, a, _, _, _, ez, rfl, ht, rfl, kn, _, _, rfl, rfl, hk4, small1000 (by simp; omega), ?_⟩
      refine ⟨_, _, rfl, same_over (s3.trans s4) hkn0, ?_⟩
      rw [upd_same]
      have e2 : (names es).take (i + 1) = (names es).take i ++ [e.name] := by
        have hi2 : (names es)[i]? = some e.name := by
          show (es.map (·.name))[i]? = _
          rw [List.getElem?_map, he]
          rfl
        rw [List.take_succ, hi2]
        rfl
      rw [e2, List.map_append]
      rfl
    · rintro σ H2 ⟨o1, o2, rfl, s2, hk2⟩
      have ek : (names es).take xs.length = names es := by rw [hlen, List.take_of_length_le (by simp [names])]
      rw [ek] at hk2
      refine ⟨_, rfl, r, xs, rfl, .inl (.inl (s2 _ _ hr0)), for_it walk_enum (fun i σ H3 => ∃ (o1 o2 o3 o4 o5 : Option V), σ = [some (.ref r), some (.int 10), some (.ref kn), o1, o2, o3, o4, o5] ∧ Same H H3 ∧ H3 kn = some (.lst ((names es).map V.str)))
        ⟨_, _, _, _, _, rfl, s2, hk2⟩ (fun i σ H3 _ ⟨_, _, _, _, _, _, s3, _⟩ => s3.seq (.inl (.inl hr0))) ?_ ?_⟩
      · rintro i y σ H3 H4 hi ⟨o1, o2, o3, o4, o5, rfl, s3, hk3⟩ ⟨Tp, z1, z2, rfl, hT, rfl, hz1, hz2⟩
        cases hz1
        obtain ⟨e, he, hde⟩ := DpAll.map_get hxs hz2
        have sT : Same H3 (upd H3 Tp (.tup [.int (i : Nat), z2])) := same_new hT
        obtain ⟨a, m, rfl, ht, hm⟩ := ent_of (Dp.same (s3.trans sT) hde)
        have hin := List.mem_of_getElem? he
        refine ⟨Tp, _, rfl, .inl (.inl upd_same), rfl, _, _, rfl, _, _, rfl, ⟨a, _, rfl, ht, rfl, _, _, rfl, _, _, rfl, _, _, rfl, rfl, rfl, ?_⟩⟩
        refine ⟨_, rfl, _, rfl, .ref m, e.meths, kn, names es, rfl, hm, .inl (.inl (.inl (sT _ _ hk3))), wf.sd e hin, wf.ms e hin, fun H5 s5 => ⟨true, rfl, iteF ?_⟩⟩
        exact ⟨_, _, _, _, _, rfl, (s3.trans sT).trans s5, s5 _ _ (sT _ _ hk3)⟩
      · rintro σ H3 ⟨o1, o2, o3, o4, o5, rfl, s3, _⟩
        exact k H3 s3
end
end K11
set_option Elab.async false
set_option linter.all false
set_option maxRecDepth 100000
set_option maxHeartbeats 4000000
/-! The walks: a book and its methods. -/
namespace K11
open PySem PySem.Spec PyProof.Rows L2

/-! ### a book as it stands -/
def flds (r pa ow : Addr) : List (Str × V) := putF "own" (.ref ow) (putF "parents" (.ref pa) (putF "rows" (.ref r) []))
theorem k1 : ¬ (("rows" : Str) = "parents") := by decide +kernel
theorem k2 : ¬ (("rows" : Str) = "own") := by decide +kernel
theorem k3 : ¬ (("parents" : Str) = "own") := by decide +kernel
theorem flds_own (r pa ow : Addr) : (flds r pa ow).lookup ("own" : Str) = some (.ref ow) := by
  unfold flds
  rw [lookup_putF, if_pos rfl]
theorem flds_parents (r pa ow : Addr) : (flds r pa ow).lookup ("parents" : Str) = some (.ref pa) := by
  unfold flds
  rw [lookup_putF, if_neg k3, lookup_putF, if_pos rfl]
theorem flds_rows (r pa ow : Addr) : (flds r pa ow).lookup ("rows" : Str) = some (.ref r) := by
  unfold flds
  rw [lookup_putF, if_neg k2, lookup_putF, if_neg k1, lookup_putF, if_pos rfl]
theorem flds_no (r pa ow : Addr) {m : Str} (h1 : ¬ m = "rows") (h2 : ¬ m = "parents") (h3 : ¬ m = "own") : (flds r pa ow).lookup m = none := by
  unfold flds
  rw [lookup_putF, if_neg h3, lookup_putF, if_neg h2, lookup_putF, if_neg h1]
  rfl
def parD (es : List Ent) : List (Key × V) := es.map fun e => ((Sum.inr e.name : Key), vOpt e.base)
def okey (n s : Str) : List Key := [Sum.inr n, Sum.inr s]
structure BookAt (K : PySem.W.Frag) (C : Addr) (H : Hp) (p : Addr) (es : List Ent) : Prop where
  wf : WF es
  ex : ∃ (dx r pa ow : Addr) (kvs : List (List Key × V)), H p = some (.ins C dx (flds r pa ow)) ∧ RowsAt K H r es ∧ H pa = some (.dK (parD es)) ∧ H ow = some (.dT kvs) ∧
    ∀ n s, (ownOf es n s = none ∧ valV kvs (okey n s) = none) ∨ ∃ m v, ownOf es n s = some m ∧ valV kvs (okey n s) = some v ∧ Dp K H v (dMeth m)
theorem BookAt.same {K : PySem.W.Frag} {C : Addr} {H H' : Hp} {p : Addr} {es : List Ent} (h : BookAt K C H p es) (s : Same H H') : BookAt K C H' p es := by
  obtain ⟨wf, dx, r, pa, ow, kvs, h1, h2, h3, h4, h5⟩ := h
  refine ⟨wf, dx, r, pa, ow, kvs, s _ _ h1, h2.same s, s _ _ h3, s _ _ h4, fun n z => ?_⟩
  rcases h5 n z with q | ⟨m, v, a, b, c⟩
  · exact .inl q
  · exact .inr ⟨m, v, a, b, Dp.same s c⟩
theorem parD_get {es : List Ent} (n : Str) : valV (parD es) (Sum.inr n : Key) = (parOf es n).map vOpt := by
  unfold parD parOf entOf valV
  rw [List.find?_map]
  have e : ((fun kv : Key × V => decide (kv.1 = (Sum.inr n : Key))) ∘ fun e : Ent => ((Sum.inr e.name : Key), vOpt e.base)) = fun e : Ent => decide (e.name = n) := by
    funext e
    exact decide_eq_decide.mpr ⟨fun h => Sum.inr.inj h, fun h => congrArg Sum.inr h⟩
  rw [e, Option.map_map, Option.map_map]
  rfl
theorem parOf_some {es : List Ent} {n : Str} : (parOf es n).isSome = decide (n ∈ names es) := by
  by_cases h : n ∈ names es
  · obtain ⟨e, he⟩ := entOf_has h
    unfold parOf
    rw [he, decide_eq_true h]
    rfl
  · unfold parOf
    rw [entOf_none h, decide_eq_false h]
    rfl

/-! ### x in o, x not in o, by an own __contains__ -/
section
variable {X : Cx} {k : Nat} {ps : List Str} {sp : Sp} {C : Addr}
def rNotInO (C : Addr) (sp : Sp) : R2 := fun x y H Q => ∃ a dx fs, y = .ref a ∧ H a = some (.ins C dx fs) ∧ sp [y, x] H (fun v H' => ∃ b, v = .bl b ∧ Q (.bl (!b)) H') E0
theorem op_notInO (c : MCal X.prog X.w X.K X.mg X.base C "__contains__" k ps sp) (hr : Room k X.A) : OpR X (compareOp .NotIn) (rNotInO C sp) := by
  intro pins s σ H x y v u Q I rx ry h
  obtain ⟨a, dx, fs, rfl, ea, q⟩ := h
  obtain ⟨f, fd, F, hm, b⟩ := c.ex
  obtain rfl : u = Value.ref a := ry
  obtain ⟨mA, O, _⟩ := ins_get I.hok ea
  obtain ⟨od, J, _⟩ := O.look
  obtain ⟨m, FR⟩ := I.fr
  refine PySem.W.notIn_K FR I.ok.mod.kin J hm.at_ hm.fn ?_
  refine thn (run_fn (Q := fun v H' => ∃ b, v = .bl b ∧ Q (.bl (!b)) H') (us := [.ref a, v]) (vs := [.ref a, x]) F hr b .nil (pass0 (X := X)) I (.cons rfl (.cons rx .nil)) (by simpa using q)) fun r s' ⟨z, H', I', rz, bb, ez, q'⟩ => ?_
  subst ez
  cases rz
  exact wpAny_truthy_bool ⟨.bl (!bb), H', I', rfl, q'⟩
end

section
variable {P : Program} {w : World} {K : PySem.W.Frag} {mg : Str → Option Value} {base : Heap} {C : Addr}
abbrev MetAt (K : PySem.W.Frag) (C : Addr) (m q : Str) (st : Stmt) : Prop := ∃ f fd, FunD K m q (defArgs st) (defBody st) (defScope st) [] [] f fd ∧ L2.Meth K C m f
/-- what the class Book must have -/
structure Bok (K : PySem.W.Frag) (C : Addr) : Prop where
  cl : Cls K C
  nR : NoAttr K C "rows"
  nP : NoAttr K C "parents"
  nO : NoAttr K C "own"
  lim : ∃ mc u, ClX.CRead K C mc ∧ ClX.CVal K C mc "LIMIT" (.int 10) u
/-! ### __contains__, check -/
def spCont (K : PySem.W.Frag) (C : Addr) : Sp := fun vs H Q _ => ∃ (p : Addr) (es : List Ent) (n : Str), vs = [.ref p, .str n] ∧ BookAt K C H p es ∧ Q (.bl (decide (n ∈ names es))) H
theorem scCont : FnScope ["self", "value"] ["self", "value"] (defScope sCont) := ⟨rfl, rfl, rfl, by decide +kernel, rfl, by decide +kernel, by decide +kernel⟩
theorem ok_cont (T : Txt K mg) (B : Bok K C) (F : MetAt K C "__contains__" "Book.__contains__" sCont) : MCal P w K mg base C "__contains__" 1 ["self", "value"] (spCont K C) := by
  refine mcal_of F scCont (fun vs H Q E h => ?_) (fun _ _ _ _ _ _ us hl => match us, hl with | [_, _], _ => rfl) (fun f cdv A outer s H vs Q E hr h => ?_)
  · obtain ⟨p, es, n, rfl, _⟩ := h
    rfl
  · obtain ⟨p, es, n, rfl, Bk, k⟩ := h
    have hu := hu_of hr
    obtain ⟨wf, dx, r, pa, ow, kvs, h1, h2, h3, h4, h5⟩ := Bk
    refine ⟨_, pss_one (ps_ret (pe_and (pe_isStr T.isi T.str (pv 1)) (pe_one (pe_cmp (pc_din hu (pv 1) (pe_fld (pv 0) rfl)))))), ?_⟩
    refine ⟨_, rfl, n, rfl, true, rfl, iteT ⟨_, rfl, _, rfl, p, C, dx, _, _, rfl, h1, B.cl, B.nP, flds_parents _ _ _, pa, _, rfl, DGet.k (k := Sum.inr n) h3, ?_⟩⟩
    rw [parD_get, Option.isSome_map, parOf_some]
    exact k
def spCheck (K : PySem.W.Frag) (C : Addr) : Sp := fun vs H Q _ => ∃ (p : Addr) (es : List Ent) (n : Str), vs = [.ref p, .str n] ∧ BookAt K C H p es ∧ n ∈ names es ∧ Q .non H
theorem scCheck : FnScope ["self", "name"] ["self", "name"] (defScope sCheck) := ⟨rfl, rfl, rfl, by decide +kernel, rfl, by decide +kernel, by decide +kernel⟩
theorem ok_check (F : MetAt K C "check" "Book.check" sCheck) (cC : MCal P w K mg base C "__contains__" 1 ["self", "value"] (spCont K C)) : MCal P w K mg base C "check" 2 ["self", "name"] (spCheck K C) := by
  refine mcal_of F scCheck (fun vs H Q E h => ?_) (fun _ _ _ _ _ _ us hl => match us, hl with | [_, _], _ => rfl) (fun f cdv A outer s H vs Q E hr h => ?_)
  · obtain ⟨p, es, n, rfl, _⟩ := h
    rfl
  · obtain ⟨p, es, n, rfl, Bk, hn, k⟩ := h
    obtain ⟨wf, dx, r, pa, ow, kvs, h1, h2, h3, h4, h5⟩ := id Bk
    refine ⟨_, pss_one (ps_if (pt_cmpR (op_notInO cC hr) (pv 1) (pv 0) (by rfl)) (pss_one ps_never) pss_nil), ?_⟩
    refine ⟨_, rfl, _, rfl, p, dx, _, rfl, h1, p, es, n, rfl, Bk, _, rfl, _, rfl, ?_⟩
    rw [decide_eq_true hn]
    exact iteF k
/-! ### bases -/
def spBases (K : PySem.W.Frag) (C : Addr) : Sp := fun vs H Q _ => ∃ (p : Addr) (es : List Ent) (n : Str), vs = [.ref p, .str n] ∧ BookAt K C H p es ∧ n ∈ names es ∧ ∀ a H', Same H H' → H a = none → H' a = some (.lst ((bases es n).map V.str)) → Q (.ref a) H'
theorem scBases : FnScope ["self", "name", "found"] ["self", "name"] (defScope sBases) := ⟨rfl, rfl, rfl, by decide +kernel, rfl, by decide +kernel, by decide +kernel⟩
theorem ok_bases (B : Bok K C) (F : MetAt K C "bases" "Book.bases" sBases) (cC : MCal P w K mg base C "check" 2 ["self", "name"] (spCheck K C)) : MCal P w K mg base C "bases" 3 ["self", "name"] (spBases K C) := by
  refine mcal_of F scBases (fun vs H Q E h => ?_) (fun _ _ _ _ _ _ us hl => match us, hl with | [_, _], _ => rfl) (fun f cdv A outer s H vs Q E hr h => ?_)
  · obtain ⟨p, es, n, rfl, _⟩ := h
    rfl
  · obtain ⟨p, es, n, rfl, Bk, hn, k⟩ := h
    have hu := hu_of hr
    obtain ⟨wf, dx, r, pa, ow, kvs, h1, h2, h3, h4, h5⟩ := id Bk
    refine ⟨_, pss_cons (ps_expr (pe_mcal cC B.cl hr (pv 0) (pa_cons (pv 1) pa_nil)))
      (pss_cons (ps_set (i := 2) scBases.nd rfl (Or.inl rfl) (pe_lst pa_nil))
      (pss_cons (ps_while PassesOwn.never (pt_cmpR op_notN (pv 1) pe_non (nomark _))
        (pss_cons (ps_expr (pe_bm PySem.F.plainAttrs_list PySem.F.slot_list_append PySem.F.type_list_append mt_append (pv 2) (pa_cons (pv 1) pa_nil)))
        (pss_one (ps_set (i := 1) scBases.nd rfl (Or.inl rfl) (pe_dget hu (pe_fld (pv 0) rfl) (pv 1) (fun _ _ => rfl))))))
      (pss_one (ps_ret (pv 2))))), ?_⟩
    refine ⟨_, rfl, p, dx, _, rfl, h1, flds_no _ _ _ (by decide +kernel) (by decide +kernel) (by decide +kernel), _, rfl, p, es, n, rfl, Bk, hn, ?_⟩
    refine ⟨Nat.zero_le _, fun a ha => ?_⟩
    refine while_by (fun σ H2 => ∃ (o : Option Str) (pre rest : List Str), σ = [some (.ref p), some (vOpt o), some (.ref a)] ∧ Same H H2 ∧ H2 a = some (.lst (pre.map V.str)) ∧ Ch (parOf es) o rest ∧ bases es n = pre ++ rest)
      (fun σ H2 => match H2 a with | some (.lst xs) => (bases es n).length - xs.length | _ => 0) ⟨some n, [], bases es n, rfl, same_new ha, upd_same, bases_ch wf hn, rfl⟩ ?_ ?_
    · rintro σ H2 ⟨o, pre, rest, rfl, s2, ha2, ch, eb⟩
      refine ⟨_, rfl, rfl, _, rfl, ?_⟩
      cases o with
      | none =>
        rw [decide_eq_true (show vOpt none = V.non from rfl)]
        refine iteF ⟨_, rfl, ?_⟩
        cases ch
        rw [List.append_nil] at eb
        rw [← eb] at ha2
        exact k a H2 s2 ha ha2
      | some x =>
        rw [decide_eq_false (show ¬ vOpt (some x) = V.non from fun z => nomatch z)]
        cases ch with
        | @cons _ b l hp ch =>
          have hlb : (bases es n).length ≤ 7 := Nat.le_trans (bases_length es n) wf.few
          have hlp : pre.length + (l.length + 1) = (bases es n).length := by rw [eb]; simp
          refine iteT ⟨_, rfl, .inl ⟨rfl, _, .inl (.inl ha2)⟩, _, rfl, a, _, _, rfl, rfl, ha2, small1000 (by simp; omega), ?_⟩
          have s3 : Same H (upd H2 a (.lst (pre.map V.str ++ [vOpt (some x)]))) := same_over s2 ha
          refine ⟨_, rfl, p, C, dx, _, _, rfl, s3 _ _ h1, B.cl, B.nP, flds_parents _ _ _, _, rfl, pa, vOpt b, rfl, ?_, ⟨b, pre ++ [x], l, rfl, s3, ?_, ch, ?_⟩, ?_⟩
          · have g := DGet.k (k := Sum.inr x) (s3 _ _ h3)
            rw [parD_get, hp] at g
            exact g
          · rw [upd_same, List.map_append]
            rfl
          · rw [eb, List.append_assoc]
            rfl
          · show (match upd H2 a (.lst (pre.map V.str ++ [vOpt (some x)])) a with | some (.lst xs) => (bases es n).length - xs.length | _ => 0) < (match H2 a with | some (.lst xs) => (bases es n).length - xs.length | _ => 0)
            rw [upd_same, ha2]
            simp only [List.length_append, List.length_map, List.length_singleton]
            omega
    · rintro σ H2 Q1 Q2 hQ ⟨v, e1, e2, b, e3, q⟩
      exact ⟨v, e1, e2, b, e3, hQ _ _ q⟩
/-! ### belongs -/
def spBelongs (K : PySem.W.Frag) (C : Addr) : Sp := fun vs H Q _ => ∃ (p : Addr) (es : List Ent) (n o : Str), vs = [.ref p, .str n, .str o] ∧ BookAt K C H p es ∧ n ∈ names es ∧ o ∈ names es ∧ ∀ H', Same H H' → Q (.bl (decide (o ∈ bases es n))) H'
theorem scBelongs : FnScope ["self", "name", "other"] ["self", "name", "other"] (defScope sBelongs) := ⟨rfl, rfl, rfl, by decide +kernel, rfl, by decide +kernel, by decide +kernel⟩
theorem ok_belongs (B : Bok K C) (F : MetAt K C "belongs" "Book.belongs" sBelongs) (cC : MCal P w K mg base C "check" 2 ["self", "name"] (spCheck K C)) (cB : MCal P w K mg base C "bases" 3 ["self", "name"] (spBases K C)) : MCal P w K mg base C "belongs" 4 ["self", "name", "other"] (spBelongs K C) := by
  refine mcal_of F scBelongs (fun vs H Q E h => ?_) (fun _ _ _ _ _ _ us hl => match us, hl with | [_, _, _], _ => rfl) (fun f cdv A outer s H vs Q E hr h => ?_)
  · obtain ⟨p, es, n, o, rfl, _⟩ := h
    rfl
  · obtain ⟨p, es, n, o, rfl, Bk, hn, ho, k⟩ := h
    obtain ⟨wf, dx, r, pa, ow, kvs, h1, h2, h3, h4, h5⟩ := id Bk
    have hr2 : Room 2 _ := hr.mono (by decide)
    refine ⟨_, pss_cons (ps_expr (pe_mcal cC B.cl hr2 (pv 0) (pa_cons (pv 1) pa_nil))) (pss_cons (ps_expr (pe_mcal cC B.cl hr2 (pv 0) (pa_cons (pv 2) pa_nil)))
      (pss_one (ps_ret (pe_cmpR op_inS (pv 2) (pe_mcal cB B.cl hr (pv 0) (pa_cons (pv 1) pa_nil)) (by rfl))))), ?_⟩
    refine ⟨_, rfl, p, dx, _, rfl, h1, flds_no _ _ _ (by decide +kernel) (by decide +kernel) (by decide +kernel), _, rfl, p, es, n, rfl, Bk, hn, ?_⟩
    refine ⟨_, rfl, p, dx, _, rfl, h1, flds_no _ _ _ (by decide +kernel) (by decide +kernel) (by decide +kernel), _, rfl, p, es, o, rfl, Bk, ho, ?_⟩
    refine ⟨_, rfl, _, rfl, p, dx, _, rfl, h1, flds_no _ _ _ (by decide +kernel) (by decide +kernel) (by decide +kernel), _, rfl, p, es, n, rfl, Bk, hn, fun a H' s' _ ha => ?_⟩
    exact ⟨o, a, _, rfl, rfl, .inl (.inl (.inl ha)), k H' s'⟩

/-! ### classes -/
def spClasses (K : PySem.W.Frag) (C : Addr) : Sp := fun vs H Q _ => ∃ (p : Addr) (es : List Ent), vs = [.ref p] ∧ BookAt K C H p es ∧ ∀ a H', Same H H' → H a = none → H' a = some (.lst ((names es).map V.str)) → Q (.ref a) H'
theorem scClasses : FnScope ["self", "name", "base", "methods"] ["self"] (defScope sClasses) := ⟨rfl, rfl, rfl, by decide +kernel, rfl, by decide +kernel, by decide +kernel⟩
theorem ok_classes (B : Bok K C) (F : MetAt K C "classes" "Book.classes" sClasses) : MCal P w K mg base C "classes" 1 ["self"] (spClasses K C) := by
  refine mcal_of F scClasses (fun vs H Q E h => ?_) (fun _ _ _ _ _ _ us hl => match us, hl with | [_], _ => rfl) (fun f cdv A outer s H vs Q E hr h => ?_)
  · obtain ⟨p, es, rfl, _⟩ := h
    rfl
  · obtain ⟨p, es, rfl, Bk, k⟩ := h
    obtain ⟨wf, dx, r, pa, ow, kvs, h1, ⟨xs, h2, hxs⟩, h3, h4, h5⟩ := id Bk
    have hlen : xs.length = es.length := DpAll.map_len hxs
    have hfew := wf.few
    refine ⟨_, pss_one (ps_ret (pe_lc (own := [("name", 1), ("base", 2), ("methods", 3)]) (g := gTup K 3 (gCons (gName 1) (gCons (gName 2) (gCons (gName 3) gNil)))) (tt := tYes) rfl scClasses.nd (pi_list (pe_fld (pv 0) rfl))
      (blkOk_by (N := ["self", "name", "base", "methods"]) (sc := defScope sClasses) (by decide +kernel))
      (fun _ _ _ _ _ => pg_tup rfl (pgs_cons (pg_name (i := 1) scClasses.nd rfl (Or.inl rfl)) (pgs_cons (pg_name (i := 2) scClasses.nd rfl (Or.inl rfl)) (pgs_cons (pg_name (i := 3) scClasses.nd rfl (Or.inl rfl)) pgs_nil)))) (fun _ _ _ _ _ => pts_nil) (fun _ _ _ _ _ => pv 1))), ?_⟩
    refine ⟨_, rfl, p, C, dx, _, _, rfl, h1, B.cl, B.nR, flds_rows _ _ _, r, rfl, ⟨xs, .inl (.inl h2)⟩, fun D hD => ?_⟩
    refine lc_pure walk_list ((names es).map V.str) (by simp [names, hlen]) (by omega) (Same.refl H) hD (fun _ s => s.seq (.inl (.inl h2))) yAt_same ?_ ?_
    · rintro i y H0 H' Z hi s0 ⟨rfl, hy⟩ hZ
      obtain ⟨e, he, hd⟩ := DpAll.map_get hxs hy
      obtain ⟨a, m, rfl, ht, _⟩ := ent_of (Dp.same s0 hd)
      refine ⟨a, _, rfl, ht, rfl, _, _, rfl, _, _, rfl, _, _, rfl, rfl, rfl, _, rfl, hZ _ _ ?_ (Same.refl _)⟩
      unfold names
      rw [List.map_map, List.getElem?_map, he]
      rfl
    · intro H' s' hD'
      exact k D H' s' hD hD'
/-! ### method -/
/-- what method hands back -/
def FoundAt (K : PySem.W.Frag) (H : Hp) (v : V) : Option (Str × Mth) → Prop
  | none => v = .non
  | some (h, m) => ∃ b c, v = .ref b ∧ H b = some (.tup [.str h, .ref c, .str m.ending]) ∧ Dp K H (.ref c) (.tuple (m.cases.map dCase))
def spMethod (K : PySem.W.Frag) (C : Addr) : Sp := fun vs H Q _ => ∃ (p : Addr) (es : List Ent) (n z : Str), vs = [.ref p, .str n, .str z] ∧ BookAt K C H p es ∧ n ∈ names es ∧ z ∈ sides ∧
  ∀ H' v, Same H H' → FoundAt K H' v (methF es n z) → Q v H'
theorem scMethod : FnScope ["self", "name", "side", "home"] ["self", "name", "side"] (defScope sMethod) := ⟨rfl, rfl, rfl, by decide +kernel, rfl, by decide +kernel, by decide +kernel⟩
theorem findM_skip {own : Str → Str → Option Mth} {s : Str} : ∀ {l : List Str}, (∀ x ∈ l, own x s = none) → findM own s l = none
  | [], _ => rfl
  | x :: l, h => by
    unfold findM
    rw [h x List.mem_cons_self]
    exact findM_skip fun y hy => h y (List.mem_cons_of_mem _ hy)
theorem findM_hit {own : Str → Str → Option Mth} {s x : Str} {m : Mth} : ∀ {l t : List Str}, (∀ y ∈ l, own y s = none) → own x s = some m → findM own s (l ++ x :: t) = some (x, m)
  | [], t, _, e => by
    show findM own s (x :: t) = _
    unfold findM
    rw [e]
  | y :: l, t, h, e => by
    show findM own s (y :: (l ++ x :: t)) = _
    unfold findM
    rw [h y List.mem_cons_self]
    exact findM_hit (fun z hz => h z (List.mem_cons_of_mem _ hz)) e
theorem okey_kV (n z : Str) : (okey n z).map kV = [.str n, .str z] := rfl
theorem ok_method (B : Bok K C) (F : MetAt K C "method" "Book.method" sMethod) (cS : Cal P w K mg base "is_side" 1 ["value"] spSide) (cB : MCal P w K mg base C "bases" 3 ["self", "name"] (spBases K C)) :
    MCal P w K mg base C "method" 4 ["self", "name", "side"] (spMethod K C) := by
  refine mcal_of F scMethod (fun vs H Q E h => ?_) (fun _ _ _ _ _ _ us hl => match us, hl with | [_, _, _], _ => rfl) (fun f cdv A outer s H vs Q E hr h => ?_)
  · obtain ⟨p, es, n, z, rfl, _⟩ := h
    rfl
  · obtain ⟨p, es, n, z, rfl, Bk, hn, hz, k⟩ := h
    have hu := hu_of hr
    have hr1 : Room 1 _ := hr.mono (by decide)
    obtain ⟨wf, dx, r, pa, ow, kvs, h1, h2, h3, h4, h5⟩ := id Bk
    refine ⟨_, pss_cons (ps_for PassesOwn.never rfl (pi_list (pe_mcal cB B.cl hr (pv 0) (pa_cons (pv 1) pa_nil))) (pg_name (i := 3) scMethod.nd rfl (Or.inl rfl))
        (pss_one (ps_if (PW.pt (pw_and (pt_val (pe_cal cS hr1 (pa_cons (pv 2) pa_nil))) (pw_and1 (pt_cmp (pc_din hu (pe_tup (pa_cons (pv 3) (pa_cons (pv 2) pa_nil))) (pe_fld (pv 0) rfl))))))
          (pss_one (ps_ret (pe_tup (pa_cons (pv 3) (StX.pa_star (pe_slice sl_tup (pe_dget hu (pe_fld (pv 0) rfl) (pe_tup (pa_cons (pv 3) (pa_cons (pv 2) pa_nil))) (fun _ _ => rfl)) (po_some pe_int) po_none) pa_nil))))) pss_nil)))
      (pss_one (ps_ret pe_non)), ?_⟩
    refine ⟨_, rfl, p, dx, _, rfl, h1, flds_no _ _ _ (by decide +kernel) (by decide +kernel) (by decide +kernel), _, rfl, p, es, n, rfl, Bk, hn, fun a H1 s1 ha0 ha => ?_⟩
    refine ⟨a, rfl, ⟨_, .inl (.inl ha)⟩, for_list (K := K) (a := a) (xs := (bases es n).map V.str) (fun i σ H2 => ∃ o : Option V, σ = [some (.ref p), some (.str n), some (.str z), o] ∧ Same H1 H2 ∧ ∀ x ∈ (bases es n).take i, ownOf es x z = none)
      ⟨none, rfl, Same.refl _, fun x hx => by cases hx⟩ (fun i σ H2 _ ⟨_, _, s2, _⟩ => s2.seq (.inl (.inl ha))) ?_ ?_⟩
    · rintro i y σ H2 hy ⟨o, rfl, s2, hno⟩
      rw [List.getElem?_map] at hy
      obtain ⟨x, hx, rfl⟩ := Option.map_eq_some_iff.mp hy
      have s12 := s1.trans s2
      refine ⟨_, rfl, z, rfl, _, rfl, ?_⟩
      rw [decide_eq_true hz]
      refine iteT ⟨_, rfl, _, rfl, two_le, fun q hq => ⟨_, rfl, p, C, dx, _, _, rfl, (same_new hq) _ _ (s12 _ _ h1), B.cl, B.nO, flds_own _ _ _, ow, _, rfl, DGet.t (k := okey x z) ((same_new hq) _ _ (s12 _ _ h4)) upd_same, _, rfl, ?_⟩⟩
      have sq : Same H2 (upd H2 q (.tup [.str x, .str z])) := same_new hq
      rcases h5 x z with ⟨e1, e2⟩ | ⟨m, v, e1, e2, hd⟩
      · rw [e2]
        refine iteF ⟨_, rfl, s2.trans sq, fun y hy => ?_⟩
        rw [List.take_succ, hx] at hy
        rcases List.mem_append.mp hy with hy | hy
        · exact hno y hy
        · have : y = x := by simpa using hy
          rw [this]
          exact e1
      · rw [e2]
        have hd2 := Dp.same (s12.trans sq) hd
        obtain ⟨am, c, rfl, htm, hc⟩ := meth_of hd2
        refine iteT ⟨_, rfl, _, rfl, p, C, dx, _, _, rfl, sq _ _ (s12 _ _ h1), B.cl, B.nO, flds_own _ _ _, _, rfl, _, rfl, two_le, fun q2 hq2 => ?_⟩
        have sq2 := same_new (o := .tup [.str x, .str z]) hq2
        have s13 := (s12.trans sq).trans sq2
        refine ⟨ow, _, rfl, DGet.t (k := okey x z) (kvs := kvs) (s13 _ _ h4) upd_same |> (fun g => by rw [e2] at g; exact g), 1, rfl, am, _, rfl, Same.seqT sq2 htm, ?_, fun q3 hq3 => ?_⟩
        · rintro ⟨e, _⟩
          cases e
        rw [cut1]
        have sq3 := same_new (o := .tup ([V.str m.side, V.ref c, V.str m.ending].drop 1)) hq3
        refine ⟨q3, _, rfl, .inl (.inl (.inl upd_same)), three_le, fun q4 hq4 => ?_⟩
        have sq4 := same_new (o := .tup ([V.str x] ++ ([V.str m.side, V.ref c, V.str m.ending].drop 1 ++ []))) hq4
        have hm : methF es n z = some (x, m) := by
          unfold methF
          have e3 : bases es n = (bases es n).take i ++ x :: (bases es n).drop (i + 1) := by
            obtain ⟨hi, ex⟩ := List.getElem?_eq_some_iff.mp hx
            rw [← ex, ← List.drop_eq_getElem_cons hi, List.take_append_drop]
          rw [e3]
          exact findM_hit hno e1
        refine k _ _ ((s13.trans sq3).trans sq4) ?_
        rw [hm]
        exact ⟨q4, c, rfl, upd_same, Dp.same ((sq2.trans sq3).trans sq4) hc⟩
    · rintro σ H2 ⟨o, rfl, s2, hno⟩
      refine k H2 _ (s1.trans s2) ?_
      unfold methF
      rw [List.length_map, List.take_length] at hno
      rw [findM_skip hno]
      rfl
end
end K11
set_option Elab.async false
set_option linter.all false
set_option maxRecDepth 100000
set_option maxHeartbeats 4000000
/-! Rules that the layer lacks: enumerate of a tuple, list.remove of data, x in d.values(), d.get(None, ..), dict comprehensions of two clauses with tuple keys. -/
namespace PySem
open Sem (wp)
open Builtin
theorem k11_enumerate_new {v : Value} {o : Obj} {H : Heap → Prop} (B : Begins v o H) :
    Meets (Builtin.«enumerate.__new__» ⟨[.type "enumerate", v], []⟩) (fun _ R s => H s.heap ∧
      R (.ok (.ret (.ref (s.heap.push o).objs.size))) { s with heap := (s.heap.push o).push { cls := .type "enumerate", data := .fields #[.none, .bool false, .ref s.heap.objs.size, rawInt 0, .none, .none] } }) :=
  .of_wp fun prog w A R s h => by
    obtain ⟨hp, g, d, tk, os⟩ := s; obtain ⟨h1, h⟩ := h
    have hsub := sub_enumerate
    have q1 : ∀ {A' : Around} {E : Value → Shared → Prop} {Q : Value → Shared → Prop}, Q (.ref hp.objs.size) ⟨hp.push o, g, d, tk, os⟩ → wpAny (model prog w) A' (pyIter v) Q E ⟨hp, g, d, tk, os⟩ :=
      fun q => B.iter prog w _ _ ⟨hp, g, d, tk, os⟩ _ h1 q
    wp_walk using q1
    refine wpAny_stack_any fun st => wpAny_pure ?_
    split
    · rename_i c _ _ _ _ _
      cases (c == Value.type "enumerate")
      · wp_walk using q1
        exact ⟨_, rfl, h⟩
      · wp_walk using q1
        exact ⟨_, rfl, h⟩
    · wp_walk using q1
      exact ⟨_, rfl, h⟩
theorem k11_enum_begins {prog : Program} {w : World} {A : Around} {E : Value → Shared → Prop} {s : Shared} {v : Value} {o : Obj} {H : Heap → Prop} {Q : Value → Shared → Prop} (B : Begins v o H) (h1 : H s.heap)
    (h : ∀ h', IsEnum h' (s.heap.objs.size + 1) s.heap.objs.size 0 .none → h'.get? s.heap.objs.size = some o → h'.objs.size = s.heap.objs.size + 2 →
      (∀ b o, s.heap.get? b = some o → h'.get? b = some o) → Q (.ref (s.heap.objs.size + 1)) { s with heap := h' }) :
    wpAny (model prog w) A (call (.type "enumerate") [v]) Q E s := by
  refine callType_new F.called_enumerate (by decide) (F.typeCall_enumerate_1 _) (F.newCall_enumerate_1 _) (fun obj => F.args_object_init_2 obj _) F.entry_enumerate_new
    (k11_enumerate_new B) ⟨h1, ?_⟩
  have hz : (s.heap.push o).objs.size = s.heap.objs.size + 1 := Heap.size_push ..
  show _ ∧ _
  rw [hz]
  have he : IsEnum ((s.heap.push o).push { cls := .type "enumerate", data := .fields #[.none, .bool false, .ref s.heap.objs.size, rawInt 0, .none, .none] }) (s.heap.objs.size + 1) s.heap.objs.size 0 .none := by
    have := Heap.get?_push_size (s.heap.push o) (o := { cls := .type "enumerate", data := .fields #[.none, .bool false, .ref s.heap.objs.size, rawInt 0, .none, .none] }) rfl
    rw [hz] at this; exact this
  refine ⟨⟨_, he, rfl⟩, h _ he (Heap.get?_push_of_some _ (Heap.get?_push_size _ B.free)) (by rw [Heap.size_push, hz]) fun b o x => Heap.get?_push_of_some _ (Heap.get?_push_of_some _ x)⟩
end PySem

namespace K11
open PySem PySem.Spec PyProof.Rows L2
/-! ### enumerate of a tuple -/
def IteT (K : PySem.W.Frag) (a : Addr) : It :=
  ⟨fun i H => ∃ (xs : List V) (x : V), SqT K H a xs ∧ xs[i]? = some x, fun i H v H' => ∃ T x, v = .ref T ∧ H T = none ∧ H' = upd H T (.tup [.int (i : Nat), x]) ∧ ∀ xs, SqT K H a xs → xs[i]? = some x, fun i H => ∃ xs : List V, SqT K H a xs ∧ xs.length = i⟩
theorem enum_ne {h : Heap} {e it a : Addr} {i : Int} {old : Value} {j : Nat} {items : Array Value} (he : IsEnum h e it i old) (hi : h.IsTupleIter it a j) (ha : h.IsTuple a items) : e ≠ a ∧ a ≠ it := by
  obtain ⟨o, ho, hc, _⟩ := ha
  obtain ⟨o2, ho2, hc2, _⟩ := hi
  refine ⟨?_, ?_⟩
  · rintro rfl
    have z : h.get? e = _ := he
    rw [ho] at z
    cases z
    injection hc with q
    exact absurd q (by decide)
  · rintro rfl
    rw [ho] at ho2
    cases ho2
    rw [hc] at hc2
    injection hc2 with q
    exact absurd q (by decide)
theorem turn_enumT {P : Program} {w : World} {K : PySem.W.Frag} {elts : List Expr} {kk : Nat} {tpos : Pos} (a e it : Addr) :
    Turn P w K (.Tuple elts kk tpos) (IteT K a) [e, it] e (fun i h => (∃ old, IsEnum h e it ((i : Nat) : Int) old) ∧ h.IsTupleIter it a i ∧ e ≠ it) where
  mem := by simp
  obj := fun i h st b hb => by
    obtain ⟨⟨old, he⟩, ⟨o, ho, hc, hd⟩, _⟩ := st
    have e' : b = e ∨ b = it := by simpa using hb
    rcases e' with z | z
    · rw [z]; exact ⟨_, he, fun v q => nomatch q⟩
    · rw [z]; exact ⟨o, ho, fun v q => by rw [hd] at q; cases q⟩
  keep := fun i h h' st k => let ⟨⟨old, he⟩, hi, hne⟩ := st; ⟨⟨old, k e (by simp) _ he⟩, hi.at fun o q => k it (by simp) o q, hne⟩
  item := by
    intro X hP hw hK hc i pins s σ H E I hf st hg
    subst hP hw hK
    obtain ⟨⟨old, he⟩, hit, hne⟩ := st
    obtain ⟨xs, x, hq, hx⟩ := hg
    obtain ⟨its, rv, p, hz⟩ := I.tuple hq
    have hT0 : s.heap.IsTuple a its.toArray := p
    obtain ⟨u, hu, ru⟩ := rv.get hx
    obtain ⟨nea, nai⟩ := enum_ne he hit hT0
    have hel : e < s.heap.objs.size := Heap.lt_size he
    have hil : it < s.heap.objs.size := by obtain ⟨_, q, _⟩ := hit; exact Heap.lt_size q
    have hlt : i < its.toArray.size := by
      obtain ⟨z, _⟩ := List.getElem?_eq_some_iff.mp hu
      simpa using z
    refine wpAny_pyNext_enum_itemC (Draws.tuple (A := X.A.in1) (I.ok.hd hc) it a nai its.toArray) he ⟨hit, hT0⟩ hlt hne (by
      intro z
      rcases List.mem_cons.mp z with z | z
      · exact hne z
      · exact nea (by simpa using z)) fun x' h' tk hP ho hst hT hsz hk => ?_
    have ex : x' = u := by
      have h1 : its.toArray[i]? = some x' := hP
      have h2 : its.toArray[i]? = some u := by simpa using hu
      rw [h1] at h2
      exact Option.some.inj h2
    subst ex
    have hTt : h'.get? s.heap.objs.size = some { cls := .type "tuple", data := .seq #[.int (i : Nat) tk, x'] } := hT
    refine ⟨_, rfl, wpAny_letOwnedTupleGo_enum (s := { s with heap := h', toks := tk + 1 }) ho fun h'' he' sb => ?_⟩
    have hT2 : h''.get? s.heap.objs.size = some { cls := .type "tuple", data := .seq #[.int (i : Nat) tk, x'] } := (sb.2 _ (Nat.ne_of_gt hel)).trans hTt
    have new : ObjOk X.prog X.w (upd H s.heap.objs.size (.tup [.int (i : Nat), x])) h'' s.heap.objs.size (.tup [.int (i : Nat), x]) :=
      ⟨by show 2 ≤ sizeLine; decide, [.int (i : Nat) tk, x'], .cons ⟨_, rfl⟩ (.cons ru .nil), ⟨_, hT2, rfl, _, rfl⟩⟩
    have I1 : Inv X pins σ (upd H s.heap.objs.size (.tup [.int (i : Nat), x])) { s with heap := h'', toks := tk + 1 } :=
      I.turnedNew (ch := [e, it]) (fun b ob hb q => (sb.2 b (fun z => hb (by simp [z]))).trans (hk b ob (fun z => hb (by simp [z])) (fun z => hb (by simp [z])) q)) hf (Nat.le_refl _) new
    refine ⟨.ref s.heap.objs.size, _, I1, rfl, ⟨_, x, rfl, I.hok.fresh (Nat.le_refl _), rfl, fun ys hy => by rw [I.tuple_inj hy hq]; exact hx⟩, ⟨⟨x', ?_⟩, hst.1.at fun o q => (sb.2 it (Ne.symm hne)).trans q, hne⟩, fun b hb => ?_⟩
    · have e1 : ((i + 1 : Nat) : Int) = (i : Int) + 1 := by omega
      rw [e1]; exact he'
    · have hb' : b < s.heap.objs.size := by
        have e' : b = e ∨ b = it := by simpa using hb
        rcases e' with z | z
        · rw [z]; exact hel
        · rw [z]; exact hil
      rw [upd_ne (Nat.ne_of_lt hb')]
      exact (hf b hb).1
  done := by
    intro X hP hw hK hc i pins s σ H E I hf st hg
    subst hP hw hK
    obtain ⟨⟨old, he⟩, hit, hne⟩ := st
    obtain ⟨xs, hq, hx⟩ := hg
    obtain ⟨its, rv, p, hz⟩ := I.tuple hq
    have hT0 : s.heap.IsTuple a its.toArray := p
    obtain ⟨nea, nai⟩ := enum_ne he hit hT0
    obtain ⟨f0, f1, f2, f3, f4, f5⟩ := hf it (by simp)
    have hl := rv.length
    have e1 : i = its.toArray.size := by rw [List.size_toArray, ← hl, hx]
    refine wpAny_pyNext_enum_endD (Draws.tuple (A := X.A.in1) (I.ok.hd hc) it a nai its.toArray) he (by rw [← e1]; exact ⟨hit, hT0⟩) fun h' eb => ⟨rfl, I.turned (t' := s.toks) (fun b o hb q => eb b o hb q) f0 f1 f3 f4 f5⟩
  self := fun A i s Q E st h => let ⟨⟨_, he⟩, _⟩ := st; wpAny_pyIter_enum he h
def iEnumT (K : PySem.W.Frag) (ta : TA) : TI := fun σ H R => ta σ H fun vs H1 => ∃ a xs, vs = [.ref a] ∧ SqT K H1 a xs ∧ R (IteT K a) H1
theorem pi_enumT {X : Cx} {e : Expr} {ta : TA} {p pos tpos : Pos} {elts : List Expr} {kk : Nat} (hg : Gl X "enumerate") (hm : X.mg "enumerate" = none) (ha : PA X [e] ta) (hs : starEach [e] X.env = [(false, eval e X.env)] := by rfl) :
    PI X (.Tuple elts kk tpos) (.Call (.Name "enumerate" p) [e] [] pos) (iEnumT X.K ta) := by
  refine ⟨fun pins s σ H R I h => ?_⟩
  refine Call_ (ld_blt I hg hm boot_enumerate (PyProof.Rows.callWith_type1 (thn (ha.run pos pins s σ H _ I h) fun us s1 ⟨vs, H1, I1, r1, q1⟩ => ?_) hs rfl))
  obtain ⟨a, xs, ex, hq, q⟩ := q1
  subst ex
  cases r1 with
  | cons r rr =>
    cases rr
    cases r
    obtain ⟨its, rv, p', hz⟩ := I1.tuple hq
    have hT0 : s1.heap.IsTuple a its.toArray := p'
    refine k11_enum_begins (begins_tuple a its.toArray) hT0 fun h' he hit hsz hk => wpAny_pyIter_enum he ?_
    have I2 : Inv X pins σ H1 { s1 with heap := h' } := I1.kept (t' := s1.toks) hk
    refine ⟨s1.heap.objs.size + 1, [s1.heap.objs.size + 1, s1.heap.objs.size], _, _, H1, rfl, I2, turn_enumT a (s1.heap.objs.size + 1) s1.heap.objs.size, ⟨⟨.none, he⟩, ⟨_, hit, rfl, rfl⟩, Nat.succ_ne_self _⟩, fun b hb => ?_, q⟩
    have e' : b = s1.heap.objs.size + 1 ∨ b = s1.heap.objs.size := by simpa using hb
    have hle : s1.heap.objs.size ≤ b := by
      rcases e' with z | z
      · rw [z]; exact Nat.le_add_right _ _
      · rw [z]; exact Nat.le_refl _
    exact I1.fpOk hle (I1.hok.fresh hle)
theorem walk_enumT {K : PySem.W.Frag} {a : Addr} {xs : List V} : Walk (IteT K a) xs.length (fun H => SqT K H a xs) (YPair (fun i => some (.int (i : Nat))) (fun i => xs[i]?)) := by
  refine ⟨fun i _ hi q => ⟨xs, xs[i], q, by simp [hi]⟩, fun _ q => ⟨xs, q, rfl⟩, fun i H v H' _ q y => ?_⟩
  obtain ⟨T, x, h1, h2, h3, h4⟩ := y
  exact ⟨T, .int (i : Nat), x, h1, h2, h3, rfl, h4 xs q⟩
end K11
namespace K11
open PySem PySem.Spec PyProof.Rows L2
/-! ### list.remove of data -/
def rRemD (K : PySem.W.Frag) : V → List V → Hp → VK → Prop := fun x vs H Q => ∃ (l : Addr) (xs : List V) (ds : List D) (y : V) (d : D) (j : Nat), x = .ref l ∧ vs = [y] ∧ H l = some (.lst xs) ∧ DpAll K H xs ds ∧ Dp K H y d ∧
  PyData.plainAll ds = true ∧ d.plain = true ∧ d.depth ≤ 60 ∧ SeqAt.dataPlace ds d = some j ∧ Q .non (upd H l (.lst (xs.eraseIdx j)))
theorem mt_remD {X : Cx} (hu : X.A.units + 64 < cLine) : L2.MtM X "list.remove" (rRemD X.K) := by
  intro pins s σ H x vs v us Q I rx rvs h
  obtain ⟨l, xs, ds, y, d, j, rfl, rfl, hH, ha, hy, pl, pd, hdp, hp, q⟩ := h
  cases rx
  obtain ⟨u, rfl, ru⟩ := rvs.one
  obtain ⟨z, its, n, r, hl, e⟩ := I.lstM hH
  obtain ⟨bs, r1⟩ := Dp.reads I d y u hy ru
  obtain ⟨as, r2⟩ := Dp.readsAll I ds _ its ha r
  refine SeqAt.remove_list_data (vs := its.toArray) (xs := ds) ⟨_, e, rfl, n, rfl⟩ (by simpa using r2) r1 pl pd (by have : min (PyData.depthAll ds) d.depth ≤ d.depth := Nat.min_le_right _ _; omega) hp (by simp; omega) ?_
  have rr := r.eraseIdx j
  refine ⟨.non, _, I.lset (its' := its.eraseIdx j) (t' := s.toks) hH e ?_ rr ?_, rfl, q⟩
  · show its.toArray.eraseIdxIfInBounds j = (its.eraseIdx j).toArray
    rw [List.eraseIdxIfInBounds_toArray]
  · have z2 : (xs.eraseIdx j).length ≤ xs.length := (List.eraseIdx_sublist _ _).length_le
    omega
end K11

/-! ### x in d.values() -/
namespace PySem
theorem k11_entry_contains : entryFor table "proto.contains_iter" = some Builtin.«proto.contains_iter» := entryFor_of_fast (by kernel_rfl)
theorem k11_plain_contains : plainId "proto.contains_iter" = true := by decide +kernel
theorem k11_values_contains : typeLookup (.type "dict_values") "__contains__" = pure none := by rw [typeLookup_type, builtinLookup_eq_fast]; kernel_rfl
section
variable {prog : Program} {w : World} {K : Type} [DecidableEq K] {knd : KeyKind prog w K} {A : Around} {R : Result → Shared → Prop}
theorem k11_contains_loop {it d : Addr} {ep : Nat} {kvs : List (K × Value)} {z : Str} {t : Tok} {ys : List Str} (hh : A.handled = none) (hne : d ≠ it) (hl : kvs.length = ys.length) (hy : ∀ (i : Nat) (y : Str), ys[i]? = some y → ∃ (k : K) (u : Tok), kvs[i]? = some (k, Value.str y u)) (k : Nat) :
    ∀ (i : Nat) (s : Shared), ys.length - i = k → i ≤ ys.length → s.heap.IsValIter it d i kvs.length ep → s.heap.DictAt knd d kvs ep →
      (∀ h', (∀ b o, b ≠ it → s.heap.get? b = some o → h'.get? b = some o) → R (.ok (.ret (.bool (decide (z ∈ ys.drop i))))) { s with heap := h' }) →
      codeAny (model prog w) A (.builtin "proto.contains_iter" ⟨[.ref it, .str z t], []⟩) R s := by
  induction k with
  | zero =>
    intro i s hk hi hit hm hR
    have hi2 : i = ys.length := by omega
    refine codeAny_builtin k11_entry_contains ?_
    rw [Around.under_plainId k11_plain_contains]
    unfold Builtin.«proto.contains_iter»
    refine wpAny_bind (wpAny_pyNext_values_end (knd := knd) (by exact hh) hit hm (by rw [List.getElem?_eq_none_iff]; omega) fun h' eb => ?_)
    have q := hR h' fun b o hb e => eb b o hb e
    rw [hi2, List.drop_length] at q
    refine wpAny_bind (wpAny_rule (wpAny_pure ?_))
    simpa using q
  | succ k ih =>
    intro i s hk hi hit hm hR
    have hi2 : i < ys.length := by omega
    obtain ⟨ky, u, hx⟩ := hy i ys[i] (List.getElem?_eq_getElem hi2)
    refine codeAny_builtin k11_entry_contains ?_
    rw [Around.under_plainId k11_plain_contains]
    unfold Builtin.«proto.contains_iter»
    refine wpAny_bind (wpAny_pyNext_values_item (knd := knd) hit hm hx fun h' hit' sb => ?_)
    refine wpAny_bind (wpAny_eqBool_str ?_)
    have ed : ys.drop i = ys[i] :: ys.drop (i + 1) := List.drop_eq_getElem_cons hi2
    by_cases hz : ys[i] = z
    · rw [decide_eq_true hz]
      have q := hR h' fun b o hb e => (sb.2 b hb).trans e
      rw [ed, decide_eq_true (show z ∈ ys[i] :: ys.drop (i + 1) by rw [hz]; exact List.mem_cons_self)] at q
      exact wpAny_bind (wpAny_rule (wpAny_pure q))
    · rw [decide_eq_false hz]
      refine wpAny_pure ⟨plainId_quiet k11_plain_contains _, ?_⟩
      refine ih (i + 1) { s with heap := h' } (by omega) hi2 hit' (hm.extBut sb.extBut hne) fun h'' k2 => ?_
      have q := hR h'' fun b o hb e => k2 b o hb ((sb.2 b hb).trans e)
      have e2 : (z ∈ ys.drop i) ↔ (z ∈ ys.drop (i + 1)) := by
        rw [ed]
        exact ⟨fun h => (List.mem_cons.mp h).elim (fun e => absurd e.symm hz) id, fun h => List.mem_cons_of_mem _ h⟩
      rw [decide_eq_decide.mpr e2] at q
      exact q
end
end PySem
namespace K11
open PySem PySem.Spec PyProof.Rows L2
section
variable {X : Cx} {a e : Expr} {ta td : TE} {apos cpos : Pos}
def tInVals (ta td : TE) : TE := fun σ H Q => ta σ H fun x H1 => td σ H1 fun y H2 => ∃ (d : Addr) (kvs : List (Key × V)) (z : Str) (ys : List Str), x = .str z ∧ y = .ref d ∧ H2 d = some (.dK kvs) ∧ kvs.map Prod.snd = ys.map V.str ∧ Q (.bl (decide (z ∈ ys))) H2
theorem pc_inVals (hcalm : X.calm = true) (ha : PE X a ta) (he : PE X e td) (hbase : attributeBase e "values" X.env (eval e X.env) = eval e X.env := by rfl) (hline : (apos.endLine == cpos.line) = true := by rfl) :
    PC X .In a (.Call (.Attribute e "values" apos) [] [] cpos) (tInVals ta td) := by
  refine ⟨fun pins s σ H Q I h => ?_⟩
  refine thn (ha.run pins s σ H _ I h) fun v s1 ⟨x, H1, I1, r1, q1⟩ => ?_
  refine wpAny_Call_method (T := "dict") (id := "dict.values") hbase rfl hline F.plainAttrs_dict F.slot_dict_values F.type_dict_values (thn (he.run pins s1 σ H1 _ I1 q1) fun u s2 ⟨y, H2, I2, r2, d, kvs, z, ys, ex, ey, hd, hys, q⟩ => ?_)
  subst ex ey
  obtain rfl : u = Value.ref d := r2
  obtain ⟨tz, rfl⟩ := r1
  obtain ⟨hsz, hs, vs, kv, hm⟩ := (show ObjOk X.prog X.w H2 s2.heap d (.dK kvs) from I2.hok d _ hd)
  refine ⟨hm.typeIs, hm.mapOf.noDict, ?_⟩
  obtain ⟨od, es, ep, hod, hxd, hdd, hrest⟩ := id hm
  have hA : s2.heap.DictAt (mixKind X.prog X.w) d vs ep := ⟨od, es, hod, hxd, hdd, hrest⟩
  have I3 : Inv X pins σ H2 { s2 with heap := s2.heap.push { cls := .type "dict_values", data := .fields #[.ref d] } } := I2.kept (t' := s2.toks) fun b ob q => Heap.get?_push_of_some _ q
  have hl : kvs.length = vs.length := Paired.length kv
  have hl2 : kvs.length = ys.length := by
    have := congrArg List.length hys
    simpa using this
  generalize hn : s2.heap.objs.size = n
  have fin : wpAny (model X.prog X.w) X.A (compareOp .In (.str z tz) (.ref n)) (EP X pins σ Q) X.xe { s2 with heap := s2.heap.push { cls := .type "dict_values", data := .fields #[.ref d] } } := by
    have hv : (s2.heap.push { cls := .type "dict_values", data := .fields #[.ref d] }).IsValuesView n d := ⟨_, by rw [← hn]; exact Heap.get?_push_size _ rfl, rfl, rfl⟩
    have hT : Shared.TypeIs { s2 with heap := s2.heap.push { cls := .type "dict_values", data := .fields #[.ref d] } } (.ref n) "dict_values" := Heap.IsValuesView.typeIs (s := { s2 with heap := s2.heap.push { cls := .type "dict_values", data := .fields #[.ref d] } }) hv
    show wpAny _ _ (contains (.ref n) (.str z tz) >>= fun b => pure (Value.bool b)) _ _ _
    refine wpAny_bind ?_
    unfold contains
    refine wpAny_holding ?_
    rw [stdlibNamesSay?_of_typeIs hT]
    refine wpAny_bind (wpAny_specialOf hT k11_values_contains ?_)
    rw [if_neg (by simp)]
    refine wpAny_bind (wpAny_callSpecialUnlessNone?_none hT k11_values_contains ?_)
    refine wpAny_bind (wpAny_rule ?_)
    have hA3 : (s2.heap.push { cls := .type "dict_values", data := .fields #[.ref d] }).DictAt (mixKind X.prog X.w) d vs ep := hA.push _
    refine wpAny_bind (wpAny_tryCatch (wpAny_pyIter_values (s := { s2 with heap := s2.heap.push { cls := .type "dict_values", data := .fields #[.ref d] } }) hv hA3 ?_))
    refine wpAny_bind (wpAny_runValue ?_)
    have dlt : d < s2.heap.objs.size := Heap.lt_size hod
    have hz3 : (s2.heap.push { cls := .type "dict_values", data := .fields #[.ref d] }).objs.size = s2.heap.objs.size + 1 := Heap.size_push ..
    have hne : d ≠ (s2.heap.push { cls := .type "dict_values", data := .fields #[.ref d] }).objs.size := by
      rw [hz3]
      exact Nat.ne_of_lt (Nat.lt_succ_of_lt dlt)
    refine k11_contains_loop (knd := mixKind X.prog X.w) (kvs := vs) (ep := ep) (ys := ys) (I3.ok.hd hcalm) hne (hl.symm.trans hl2) (fun i y hy => ?_) _ 0 _ rfl (Nat.zero_le _) ⟨_, Heap.get?_push_size _ rfl, rfl, rfl⟩ (hA3.push _) fun h' hk => ?_
    · have e1 : (kvs.map Prod.snd)[i]? = some (.str y) := by
        rw [hys, List.getElem?_map, hy]
        rfl
      rw [List.getElem?_map] at e1
      obtain ⟨⟨k, vv⟩, e2, e3⟩ := Option.map_eq_some_iff.mp e1
      have e3 : vv = V.str y := e3
      subst e3
      obtain ⟨u, hu, t, rfl⟩ := kv_get kv e2
      exact ⟨k, t, hu⟩
    · have I4 : Inv X pins σ H2 { s2 with heap := h' } := I2.kept (t' := s2.toks) fun b ob qb => by
        have hb : b < s2.heap.objs.size := Heap.lt_size qb
        refine hk b ob ?_ (Heap.get?_push_of_some _ (Heap.get?_push_of_some _ qb))
        rw [hz3]
        exact Nat.ne_of_lt (Nat.lt_succ_of_lt hb)
      rw [List.drop_zero]
      exact wpAny_pure (wpAny_pure ⟨.bl (decide (z ∈ ys)), H2, I4, rfl, q⟩)
  show wpAny _ _ (callWith cpos (.builtin "dict.values") [.ref d] [] []) _ X.xe s2
  rw [← hn] at fin
  exact method_meetsIn F.slot_dict_values F.entry_dict_values rfl (PySem.evalArgs_none ⟨rfl, hm.typeIs, F.args_dict_values_1 _, _, meets_dict_values (mixKind X.prog X.w) d hs, ⟨vs, hm⟩, fin⟩)
end
end K11
set_option Elab.async false
set_option linter.all false
set_option maxRecDepth 100000
set_option maxHeartbeats 4000000
/-! d.get(None, x); {k: v for .. for ..} whose keys are tuples. -/
namespace K11
open PySem PySem.Spec PyProof.Rows L2
/-! ### d.get(y, x), y a key or None -/
def tGetN (td ty tx : TE) : TE := fun σ H Q => td σ H fun x H1 => ∃ (a : Addr) (kvs : List (Key × V)), x = .ref a ∧ H1 a = some (.dK kvs) ∧ ty σ H1 fun y H2 => tx σ H2 fun z H3 => H3 a = some (.dK kvs) ∧
  ((∃ k, y = kV k ∧ Q ((valV kvs k).getD z) H3) ∨ (y = .non ∧ Q z H3))
theorem pe_getN {X : Cx} {o e f : Expr} {apos cpos : Pos} {td ty tx : TE} (hu : X.A.units + 1 < cLine) (ho : PE X o td) (he : PE X e ty) (hf : PE X f tx) (m : M2 X o "get" apos e f cpos) : PE X (.Call (.Attribute o "get" apos) [e, f] [] cpos) (tGetN td ty tx) := by
  refine ⟨fun pins s σ H Q I h => ?_⟩
  refine wpAny_Call_method m.base m.few m.line PySem.F.plainAttrs_dict PySem.F.slot_dict_get PySem.F.type_dict_get (thn (ho.run pins s σ H _ I h) fun u s1 ⟨x, H1, I1, rx, a, kvs, ex, hd1, q1⟩ => ?_)
  subst ex
  obtain rfl : u = Value.ref a := rx
  obtain ⟨t1, t2, _⟩ := isD_at I1 (.inl ⟨kvs, .inl hd1⟩ : IsD H1 a)
  refine ⟨t1, t2, ?_⟩
  rw [m.trees]
  refine Calls.callWith_builtin rfl (Calls.evalArgs_plain (Calls.spliced_cons (thn (he.run pins s1 σ H1 _ I1 q1) fun iv s2 ⟨y, H2, I2, ry, q2⟩ =>
    Calls.spliced_cons (thn (hf.run pins s2 σ H2 _ I2 q2) fun fv s3 ⟨z, H3, I3, rz, hd3, q3⟩ => Calls.spliced_nil ?_))))
  rcases q3 with ⟨k, rfl, q3⟩ | ⟨rfl, q3⟩
  · exact d_get2 hu I3 (DGet.k hd3) ry rz fun w' s4 I4 rw' => ⟨_, H3, I4, rw', q3⟩
  · obtain rfl : iv = Value.none := ry
    obtain ⟨_, hd, vs, _, dd⟩ := dk_of I3.hok hd3
    obtain ⟨g, hm, hg⟩ := none_map dd
    refine call_meetsIn PySem.F.slot_dict_get dd.typeIs PySem.F.entry_dict_get (PySem.F.args_dict_get_3 _ _ _) (meets_dict_get_default (noneKind X.prog X.w) a (show (noneKind X.prog X.w).is none .none = true from rfl) hd fv) ⟨g, hm, ?_⟩
    rw [hg]
    exact ⟨z, H3, I3.tok _, rz, q3⟩

/-! ### d[k] = v by a comprehension, k a tuple -/
theorem d_setT {X : Cx} {pins : List (Addr × Obj)} {σ : L2.St} {H : Hp} {s : Shared} {E : Value → Shared → Prop} {D b : Addr} {kvs : List (List Key × V)} {k : List Key} {v : V} {r : Value} {Q : Unit → Shared → Prop} (hu : X.A.units + 1 < cLine) (I : Inv X pins σ H s)
    (hD : H D = some (.dT kvs)) (hb : H b = some (.tup (k.map kV))) (hz : kvs.length < sizeLine) (rv : RelV v r) (h : ∀ s', Inv X pins σ (upd H D (.dT (putK kvs k v))) s' → Q () s') : wpAny (model X.prog X.w) X.A (dictSet D (.ref b) r) Q E s := by
  obtain ⟨z, hd, xs, rel, dd⟩ := dt_of I.hok hD
  have hl : (putK kvs k v).length ≤ sizeLine := by
    have := length_putK kvs k v
    omega
  refine wpAny_dictSet_heap (hsz := by rw [← Paired.length rel]; exact z) (show X.A.units < cLine by omega) (key_of I.hok hb) dd fun h' dd' hs => h _ ?_
  obtain ⟨q, es, ep, hq, h2, h3, h4, _, h5⟩ := dd'
  refine d_write I (by rw [hD]; exact True.intro) hs ⟨q, hq⟩ ⟨hl, hd, _, (rel.put k hb rv).keeps fun c ys ec => ?_, q, es, ep, hq, h2, h3, h4, h5⟩
  rw [upd_ne (ne_of ec hD (fun z => nomatch z))]
  exact ec
end K11

/-! ### the machine's turns of {kx: vx for t0 in i0 for t1 in i1} -/
namespace K11
open PySem PySem.Spec PyProof.Rows L2
abbrev Dc2 (kx vx t0 i0 t1 i1 : Expr) (scope : Scope) (pos : Pos) : Expr := .DictComp kx vx [⟨t0, i0, [], 0⟩, ⟨t1, i1, [], 0⟩] scope pos
section
variable {kx vx t0 i0 t1 i1 : Expr} {scope : Scope} {pos : Pos} {it : Value} {D : Addr} {env : Env}
theorem dc2_turn0 : compTurn (Dc2 kx vx t0 i0 t1 i1 scope pos) 0 it (.ref D) env = (standAt i0.pos >>= fun _ => pyNext it >>= fun r => match r with
    | none => pure (.done .next)
    | some v => letOwnedTupleGo t0 it v >>= fun _ => assign t0 env v >>= fun _ => eval i1 env >>= fun x => standAt i1.pos >>= fun _ => foldedSetIterable i1 env x >>= fun x => holding [x] (pyIter x) >>= fun i =>
        runOwn (.compStart (Dc2 kx vx t0 i0 t1 i1 scope pos) 1 i (.ref D) env) env >>= fun _ => again (.compLoop (Dc2 kx vx t0 i0 t1 i1 scope pos) 0 it (.ref D) env)) := by rfl
theorem dc2_turn1 : compTurn (Dc2 kx vx t0 i0 t1 i1 scope pos) 1 it (.ref D) env = (standAt i1.pos >>= fun _ => pyNext it >>= fun r => match r with
    | none => pure (.done .next)
    | some v => letOwnedTupleGo t1 it v >>= fun _ => assign t1 env v >>= fun _ => (eval kx env >>= fun kv => holding [kv] (eval vx env) >>= fun vv => standAt { kx.pos with endLine := vx.pos.endLine, endCol := vx.pos.endCol } >>= fun _ => holding [kv, vv] (dictSet D kv vv)) >>= fun _ =>
        again (.compLoop (Dc2 kx vx t0 i0 t1 i1 scope pos) 1 it (.ref D) env)) := by rfl
variable {prog : Program} {w : World} {A : Around} {R : Result → Shared → Prop} {s : Shared}
/-- one loop (clause c) by an invariant, its turn as one tree -/
theorem dc2_loop {c : Nat} {acc : Value} (I : Nat → Shared → Prop)
    (turn : ∀ n s, I n s → wpAny (model prog w) A (compTurn (Dc2 kx vx t0 i0 t1 i1 scope pos) c it acc env) (fun fin s' => match fin with | .done f => R (.ok f) s' | .again c' => c' = .compLoop (Dc2 kx vx t0 i0 t1 i1 scope pos) c it acc env ∧ ∃ m, m < n ∧ I m s') (fun _ _ => False) s)
    (n : Nat) (h : I n s) : codeAny (model prog w) A (.compLoop (Dc2 kx vx t0 i0 t1 i1 scope pos) c it acc env) R s := by
  refine codeAny_loop rfl I (fun n s hI => ?_) n h
  show wpAny _ A ((compTurn (Dc2 kx vx t0 i0 t1 i1 scope pos) c it acc env).onRaise (fun x => do noteFrame x env; theTreesLotGoes x)) _ _ s
  exact wpAny_noted (wpAny_mono (turn n s hI) (fun fin s' hf => by cases fin <;> exact hf) fun _ _ z => z.elim)
theorem dc2_start1 (h0 : codeAny (model prog w) A (.compLoop (Dc2 kx vx t0 i0 t1 i1 scope pos) 1 it (.ref D) env) R s)
    (h : wpAny (model prog w) A (pyIter it) (fun it' s' => codeAny (model prog w) A (.compLoop (Dc2 kx vx t0 i0 t1 i1 scope pos) 1 it' (.ref D) env) R s') (fun _ _ => False) s) :
    codeAny (model prog w) A (.compStart (Dc2 kx vx t0 i0 t1 i1 scope pos) 1 it (.ref D) env) R s := by
  refine codeAny_of_tree ?_
  show wpAny _ A ((compStart (Dc2 kx vx t0 i0 t1 i1 scope pos) 1 it (.ref D) env).onRaise (fun x => do noteFrame x env; standAt theWindowsPlace)) _ _ s
  refine wpAny_notedAt ?_
  unfold compStart
  show wpAny _ A (ask >>= _) _ _ s
  refine wpAny_bind (wpAny_askSetting (wpAny_ite ?_))
  split
  · first
      | exact wpAny_bind (wpAny_pure (wpAny_pure ⟨rfl, h0⟩))
      | exact wpAny_pure ⟨rfl, h0⟩
  · refine wpAny_bind (wpAny_rule ?_)
    first
      | exact wpAny_bind (wpAny_standAt (wpAny_bind (wpAny_mono h (fun it' s' h' => wpAny_pure ⟨rfl, h'⟩) fun _ _ z => z.elim)))
      | (show wpAny _ A (standAt i1.pos >>= _) _ _ s; exact wpAny_bind (wpAny_standAt (wpAny_bind (wpAny_mono h (fun it' s' h' => wpAny_pure ⟨rfl, h'⟩) fun _ _ z => z.elim))))
end

/-! ### the inner loop, in a block -/
section
variable {X : Cx} {kx vx t0 i0 t1 i1 : Expr} {scope : Scope} {pos : Pos} {D it1 : Addr} {pins : List (Addr × Obj)} {fp1 : List Addr} {J1 : It} {tn1 : Nat → Heap → Prop} {g1 : TG} {tk tv : TE} {σ : L2.St} {vs1 : List Nat}
/-- what the inner loop asks -/
def InnerT (J1 : It) (g1 : TG) (tk tv : TE) (vs1 : List Nat) (D : Addr) (σ : L2.St) (Fin : Hp → Prop) (W1 : Nat → Nat → Hp → Prop) : Prop := ∀ j k H, W1 j k H →
  (J1.stop j H ∧ Fin H) ∨ (J1.go j H ∧ ∃ Nx : Hp → Prop, (∀ H', Nx H' → ∃ k', k' < k ∧ W1 (j + 1) k' H') ∧ ∀ x H', J1.yld j H x H' → g1 x (wipe σ vs1) H' fun σ3 H5 => wipe σ3 vs1 = wipe σ vs1 ∧
    tk σ3 H5 fun y H7 => tv σ3 H7 fun z H8 => ∃ kvs k b, y = .ref b ∧ H8 b = some (.tup (k.map kV)) ∧ H8 D = some (.dT kvs) ∧ kvs.length < sizeLine ∧ Nx (upd H8 D (.dT (putK kvs k z))))
theorem dc2_inner (hc : X.calm = true) (hx : X.xe = fun _ _ => False) (hu : X.A.units + 1 < cLine) (T1 : Turn X.prog X.w X.K t1 J1 fp1 it1 tn1) (pg1 : PG X t1 g1) (pk : PE X kx tk) (pw : PE X vx tv) {Fin : Hp → Prop} {W1 : Nat → Nat → Hp → Prop}
    (turn : InnerT J1 g1 tk tv vs1 D σ Fin W1) {s : Shared} {H : Hp} {m : Nat} (I : Inv X pins (wipe σ vs1) H s) (st : tn1 0 s.heap) (hf : ∀ b ∈ fp1, FpOk X pins H b) (w0 : W1 0 m H) :
    codeAny (model X.prog X.w) X.A (.compLoop (Dc2 kx vx t0 i0 t1 i1 scope pos) 1 (.ref it1) (.ref D) X.env) (fun r s' => match r with
      | .ok _ => ∃ H', Inv X pins (wipe σ vs1) H' s' ∧ Fin H'
      | .error _ => False) s := by
  have stat : ∀ {H' : Hp}, (∀ b ∈ fp1, H' b = none) → ∀ b ∈ fp1, FpOk X pins H' b := fun hn b hb => ⟨hn b hb, (hf b hb).2⟩
  refine dc2_loop (fun k s' => ∃ j H', Inv X pins (wipe σ vs1) H' s' ∧ tn1 j s'.heap ∧ (∀ b ∈ fp1, H' b = none) ∧ W1 j k H') ?_ m ⟨0, H, I, st, fun b hb => (hf b hb).1, w0⟩
  rintro k s2 ⟨j, H2, I2, st2, n2, w2⟩
  rw [dc2_turn1]
  refine wpAny_bind (wpAny_standAt ?_)
  rcases turn j k H2 w2 with ⟨stop, fin⟩ | ⟨go, Nx, hNx, step⟩
  · refine wpAny_bind (thnF (T1.done X rfl rfl rfl hc j pins s2 _ H2 (fun _ _ => False) I2 (stat n2) st2 stop) fun r s3 ⟨hr, I3⟩ => ?_)
    subst hr
    exact wpAny_pure ⟨H2, I3, fin⟩
  · refine wpAny_bind (thnF (T1.item X rfl rfl rfl hc j pins s2 _ H2 (fun _ _ => False) I2 (stat n2) st2 go) fun r s3 ⟨u, hr, h3⟩ => ?_)
    subst hr
    refine wpAny_bind (thnF h3 fun _ s4 ⟨x, H4, I4, r4, y4, st4, n4⟩ => ?_)
    have I4' := I4.pinned (stat n4) (T1.obj _ _ st4)
    have xF : ∀ {α : Type} {t : Sem α} {Q : α → Shared → Prop} {z : Shared}, wpAny (model X.prog X.w) X.A t Q X.xe z → wpAny (model X.prog X.w) X.A t Q (fun _ _ => False) z := fun h => by rw [hx] at h; exact h
    refine wpAny_bind (xF (thn (pg1.run _ s4 _ H4 x u _ I4' r4 (step x H4 y4)) fun _ s5 ⟨σ5, H5, I5, hw5, q5⟩ => ?_))
    refine wpAny_bind (wpAny_bind ?_)
    refine xF (thn (pk.run _ s5 σ5 H5 _ I5 q5) fun kv s6 ⟨y, H6, I6, r6, q6⟩ => ?_)
    refine wpAny_bind (wpAny_holding (xF (thn (pw.run _ s6 σ5 H6 _ I6 q6) fun vv s7 ⟨z, H7, I7, r7, kvs, ks, b, ey, hb, hD, hz, nx⟩ => ?_)))
    subst ey
    obtain rfl : kv = Value.ref b := r6
    refine wpAny_bind (wpAny_standAt (wpAny_holding ?_))
    refine d_setT hu I7 hD hb hz r7 fun s8 I8 => ?_
    refine wpAny_pure ⟨rfl, ?_⟩
    obtain ⟨m', hm, w'⟩ := hNx _ nx
    have pin' : ∀ b ∈ fp1, ∀ o, s4.heap.get? b = some o → s8.heap.get? b = some o ∧ (upd H7 D (.dT (putK kvs ks z))) b = none := fun b hb o e =>
      let q := I8.pin (b, o) (List.mem_append_right _ (List.mem_append_right _ (mem_pinsAt hb e)))
      ⟨q.1, q.2.1⟩
    refine ⟨m', hm, j + 1, _, I8.unpinned.weak (by rw [← hw5, wipe_length]) (fun i v e => by rw [← hw5] at e; exact (wipe_some e).1), T1.keep _ _ _ st4 fun b hb o e => (pin' b hb o e).1, fun b hb => ?_, w'⟩
    obtain ⟨o, e, _⟩ := T1.obj _ _ st4 b hb
    exact (pin' b hb o e).2
end
end K11
namespace K11
open PySem PySem.Spec PyProof.Rows L2
section
variable {X : Cx} {kx vx t0 i0 t1 i1 : Expr} {scope : Scope} {pos : Pos} {own : List (Str × Nat)} {vs1 : List Nat} {wi wi1 : TI} {g g1 : TG} {tk tv : TE}
def tDc2 (wi : TI) (g : TG) (wi1 : TI) (g1 : TG) (tk tv : TE) (vs vs1 : List Nat) : TE := fun σ H Q => wi σ H fun J H1 => ∀ D, H1 D = none → ∃ W : Nat → Nat → Hp → Prop, (∃ m, W 0 m (upd H1 D (.dT []))) ∧ ∀ i m H, W i m H →
  (J.stop i H ∧ Q (.ref D) H) ∨ (J.go i H ∧ ∃ Nx : Hp → Prop, (∀ H', Nx H' → ∃ m', m' < m ∧ W (i + 1) m' H') ∧ ∀ x H', J.yld i H x H' → g x (wipe σ vs) H' fun σ2 H2 => wipe σ2 vs = wipe σ vs ∧
    wi1 σ2 H2 fun J1 H4 => ∃ W1 : Nat → Nat → Hp → Prop, (∃ m, W1 0 m H4) ∧ InnerT J1 g1 tk tv vs1 D σ2 Nx W1)
theorem pe_dc2 (hc : X.calm = true) (hN : X.N.Nodup) (hu : X.A.units + 1 < cLine) (hi : PI X t0 i0 wi) (ok : BlkOk X.N X.env.scope scope own) (hv : ∀ i ∈ vs1, i ∈ own.map (·.2))
    (hg : ∀ (s : Shared) (H : Hp) (C : Addr) (cl : List (Str × Addr)) (fp : List Addr), PG (X.blk s H scope (compEnvC scope cl C X.env) fp) t0 g)
    (hi1 : ∀ (s : Shared) (H : Hp) (C : Addr) (cl : List (Str × Addr)) (fp : List Addr), PI (X.blk s H scope (compEnvC scope cl C X.env) fp) t1 i1 wi1)
    (hg1 : ∀ (s : Shared) (H : Hp) (C : Addr) (cl : List (Str × Addr)) (fp : List Addr), PG (X.blk s H scope (compEnvC scope cl C X.env) fp) t1 g1)
    (hk : ∀ (s : Shared) (H : Hp) (C : Addr) (cl : List (Str × Addr)) (fp : List Addr), PE (X.blk s H scope (compEnvC scope cl C X.env) fp) kx tk)
    (hw : ∀ (s : Shared) (H : Hp) (C : Addr) (cl : List (Str × Addr)) (fp : List Addr), PE (X.blk s H scope (compEnvC scope cl C X.env) fp) vx tv)
    (hs : ∀ x, foldedSetIterable i0 X.env x = pure x := by intro _; rfl) (hs1 : ∀ env x, foldedSetIterable i1 env x = pure x := by intro _ _; rfl) :
    PE X (Dc2 kx vx t0 i0 t1 i1 scope pos) (tDc2 wi g wi1 g1 tk tv (own.map (·.2)) vs1) := by
  refine ⟨fun pins s σ H Q I h => ?_⟩
  rw [arm_eval_DictComp]
  have hfree : ∀ y ∈ scope.names, y.2 = .free → ∃ c, X.env.cells.lookup y.1 = some c := fun y hy e => (ok.free y hy e).elim (fun k => I.ok.has _ (.inl k)) fun k => I.ok.has _ (.inr k)
  refine wpAny_comprehension_free rfl hs (closure_ok hfree) ok.kind (fun y hy e => by rw [ok.uniq y hy, e]) (thn (hi.run pins s σ H _ I h) fun xv s1 hx => thn hx fun itv s2 h2 => ?_)
  obtain ⟨it, fp, tn, J, H2, rfl, I2, T, st2, f2, q⟩ := h2
  refine wpAny_newObj_type (newEnv_comp ?_)
  generalize hD : s2.heap.objs.size = D
  have hDn : H2 D = none := I2.hok.fresh (Nat.le_of_eq hD)
  obtain ⟨W, ⟨m0, w0⟩, turn⟩ := q D hDn
  generalize hs3 : ({ s2 with heap := s2.heap.push { cls := .type "dict", data := .dict #[] } } : Shared) = s3
  have h3 : s3.heap = s2.heap.push { cls := .type "dict", data := .dict #[] } := by rw [← hs3]
  have I3 : Inv X pins σ (upd H2 D (.dT [])) s3 := by
    rw [← hs3]
    refine I2.laid (t' := s2.toks) (fun b o e => Heap.get?_push_of_some _ e) (Nat.le_of_eq hD) ?_
    rw [← hD]
    exact dt_empty s2.heap I2.big
  have f3 : ∀ b ∈ fp, FpOk X pins (upd H2 D (.dT [])) b ∧ b < s3.heap.objs.size := fun b hb => by
    have hlt : b < s2.heap.objs.size := let ⟨_, e, _⟩ := T.obj _ _ st2 b hb; Heap.lt_size e
    exact ⟨⟨by rw [upd_ne (by rw [← hD]; exact Nat.ne_of_lt hlt)]; exact (f2 b hb).1, (f2 b hb).2⟩, by rw [h3, Heap.size_push]; exact Nat.lt_succ_of_lt hlt⟩
  have st3 : tn 0 s3.heap := T.keep _ _ _ st2 fun b _ o e => by rw [h3]; exact Heap.get?_push_of_some _ e
  have I4 := block_start I3 ok hN f3
  have all := fun (s : Shared) (H : Hp) (C : Addr) (cl : List (Str × Addr)) (fp : List Addr) => And.intro (hg s H C cl fp) (And.intro (hi1 s H C cl fp) (And.intro (hg1 s H C cl fp) (And.intro (hk s H C cl fp) (hw s H C cl fp))))
  have all := all s3 (upd H2 D (.dT [])) s3.heap.objs.size (cellsFrom (s3.heap.objs.size + 1) scope.names (cloFrom X.env.cells scope.names [])) fp
  show codeAny _ _ (.compStart (Dc2 kx vx t0 i0 t1 i1 scope pos) 0 (.ref it) (.ref D) (compEnvC scope (cellsFrom (s3.heap.objs.size + 1) scope.names (cloFrom X.env.cells scope.names [])) s3.heap.objs.size X.env)) _ { s3 with heap := pushCells (s3.heap.push { cls := .type "dict", data := .dict #[] }) scope.names }
  have nfp : ∀ b ∈ fp, (upd H2 D (.dT [])) b = none := fun b hb => (f3 b hb).1.1
  generalize hce : compEnvC scope (cellsFrom (s3.heap.objs.size + 1) scope.names (cloFrom X.env.cells scope.names [])) s3.heap.objs.size X.env = ce at I4 all ⊢
  have cL : ce.locals = s3.heap.objs.size := by subst hce; rfl
  generalize hH3 : upd H2 D (.dT []) = H3 at I3 I4 all w0 nfp f3
  generalize hs4 : ({ s3 with heap := pushCells (s3.heap.push { cls := .type "dict", data := .dict #[] }) scope.names } : Shared) = s4 at I4 ⊢
  have st4 : tn 0 s4.heap := T.keep _ _ _ st3 fun b _ o e => by rw [← hs4]; exact pushCells_keeps _ _ _ _ (Heap.get?_push_of_some _ e)
  obtain ⟨pg, pi1, pg1, pk, pw⟩ := all
  generalize hY : X.blk s3 H3 scope ce fp = Y at I4 pg pi1 pg1 pk pw
  have yA : Y.A = X.A := by rw [← hY]
  have yP : Y.prog = X.prog := by rw [← hY]
  have yW : Y.w = X.w := by rw [← hY]
  have yE : Y.env = ce := by rw [← hY]
  have yX : Y.xe = fun _ _ => False := by rw [← hY]
  have stat : ∀ {σ' : L2.St} {H' : Hp} {s' : Shared}, Inv Y [] σ' H' s' → (∀ b ∈ fp, H' b = none) → ∀ b ∈ fp, FpOk Y [] H' b := fun {σ' H' s'} I' hn b hb => by
    subst hY
    exact ⟨hn b hb, (I'.ok.exf b hb).1, I'.ok.exfs b hb, .inl hb, fun x c e => (I'.ok.exf b hb).2 x c e, fun p hp => absurd (show p ∈ ([] : List (Addr × Obj)) ++ [] from hp) (by simp)⟩
  have key : ∀ R : Result → Shared → Prop, (∀ (s6 : Shared) (H5 : Hp) (m : Str → Option Value), Inv X pins σ H5 s6 → Q (.ref D) H5 → s6.heap.Ns s3.heap.objs.size m → FpOk X pins H5 s3.heap.objs.size → R (.ok .next) s6) →
      codeAny (model X.prog X.w) X.A (.compLoop (Dc2 kx vx t0 i0 t1 i1 scope pos) 0 (.ref it) (.ref D) ce) R s4 := by
    intro R hR
    refine dc2_loop (fun n s' => ∃ i H', Inv Y [] (wipe σ (own.map (·.2))) H' s' ∧ tn i s'.heap ∧ (∀ b ∈ fp, H' b = none) ∧ W i n H') ?_ m0 ⟨0, H3, I4, st4, nfp, w0⟩
    rintro n s5 ⟨i, H5, I5, st5, n5, w5⟩
    rw [dc2_turn0]
    refine wpAny_bind (wpAny_standAt ?_)
    subst hY
    rcases turn i n H5 w5 with ⟨stop, qq⟩ | ⟨go, Nx, hNx, step⟩
    · refine wpAny_bind (thnF (T.done (X.blk s3 H3 scope ce fp) rfl rfl rfl hc i [] s5 _ H5 (fun _ _ => False) I5 (stat I5 n5) st5 stop) fun r s6 ⟨hr, I6⟩ => ?_)
      subst hr
      have I7 : Inv X pins σ H5 s6 := I3.call' (ch := fp) I6.os I6.base I6.hok I6.bare fun b hb => ⟨(f3 b hb).1.2.2.2.1, (f3 b hb).1.2.1, (f3 b hb).1.2.2.2.2.1, (f3 b hb).1.2.2.2.2.2⟩
      have nC : H5 s3.heap.objs.size = none := by
        have z : H5 ce.locals = none := I6.free
        rw [cL] at z
        exact z
      obtain ⟨m, hn, _⟩ := I6.loc
      have hn : s6.heap.Ns ce.locals m := hn
      rw [cL] at hn
      exact wpAny_pure (hR s6 H5 m I7 qq hn (I3.fpOk (Nat.le_refl _) nC))
    · refine wpAny_bind (thnF (T.item (X.blk s3 H3 scope ce fp) rfl rfl rfl hc i [] s5 _ H5 (fun _ _ => False) I5 (stat I5 n5) st5 go) fun r s6 ⟨u, hr, h6⟩ => ?_)
      subst hr
      refine wpAny_bind (thnF h6 fun _ s7 ⟨x, H7, I7, r7, y7, st7, n7⟩ => ?_)
      have I7' := I7.pinned (stat I7 n7) (T.obj _ _ st7)
      refine wpAny_bind (thnF (pg.run _ s7 _ H7 x u _ I7' r7 (step x H7 y7)) fun _ s8 ⟨σ8, H8, I8, hw8, q8⟩ => ?_)
      refine wpAny_bind (thnF (pi1.run _ s8 σ8 H8 _ I8 q8) fun xv s9 hx => wpAny_bind (wpAny_standAt ?_))
      refine wpAny_bind (wpAny_of_eq (hs1 ce xv) (wpAny_bind (wpAny_holding (thnF hx fun itv s10 h10 => ?_))))
      obtain ⟨it1, fp1, tn1, J1, H10, rfl, I10, T1, st10, f10, W1, ⟨m1, w1⟩, turn1⟩ := h10
      refine wpAny_bind (wpAny_runOwn ?_)
      rw [Around.mark_none]
      have inner := dc2_inner (X := X.blk s3 H3 scope ce fp) (pos := pos) (scope := scope) (t0 := t0) (i0 := i0) (i1 := i1) hc rfl hu T1 pg1 pk pw turn1 (I10.weak (wipe_length _ _) fun j v e => (wipe_some e).1) st10 f10 w1
      refine dc2_start1 (codeAny_mono inner fun r s11 hr => ?_) (T1.self X.A 0 _ _ _ st10 (codeAny_mono inner fun r s11 hr => ?_))
      all_goals
        cases r with
        | error e => exact hr.elim
        | ok f =>
          obtain ⟨H11, I11, fin⟩ := hr
          obtain ⟨m', hm, w'⟩ := hNx H11 fin
          have pin' : ∀ b ∈ fp, ∀ o, s7.heap.get? b = some o → s11.heap.get? b = some o ∧ H11 b = none := fun b hb o e =>
            let z := I11.pin (b, o) (List.mem_append_right _ (List.mem_append_right _ (mem_pinsAt hb e)))
            ⟨z.1, z.2.1⟩
          have el := congrArg List.length hw8
          rw [wipe_length, wipe_length] at el
          refine wpAny_pure ⟨rfl, m', hm, i + 1, H11, I11.unpinned.weak (by rw [wipe_length, wipe_length, el]) (fun j v e => ?_), T.keep _ _ _ st7 fun b hb o e => (pin' b hb o e).1, fun b hb => ?_, w'⟩
          · rw [← hw8] at e
            obtain ⟨e1, e2⟩ := wipe_some e
            rw [wipe_out fun z => e2 (hv j z)]
            exact e1
          · obtain ⟨o, e, _⟩ := T.obj _ _ st7 b hb
            exact (pin' b hb o e).2
  have fin : ∀ (s6 : Shared) (H5 : Hp) (m : Str → Option Value), Inv X pins σ H5 s6 → Q (.ref D) H5 → s6.heap.Ns s3.heap.objs.size m → FpOk X pins H5 s3.heap.objs.size → compPost (model X.prog X.w) X.A X.xe none (EP X pins σ Q) (.ref D) s3.heap.objs.size (.ok .next) s6 :=
    fun s6 H5 m I' q hn ⟨f0, f1, _, f4, f5, f6⟩ => ⟨m, hn, fun h'' sb => ⟨.ref D, H5, I'.turned (t' := s6.toks) (fun b o hb e => (sb.2 b hb).trans e) f0 f1 f4 f5 f6, rfl, q⟩⟩
  exact codeAny_compStart_dict (key _ fin) (T.self X.A 0 _ _ _ st4 (key _ fin))
end
end K11
set_option Elab.async false
set_option linter.all false
set_option maxRecDepth 100000
set_option maxHeartbeats 4000000
/-! The walks: a book is filled and made. -/
namespace K11
open PySem PySem.Spec PyProof.Rows L2

/-! ### dict comprehensions over a walk -/
section
variable {J J1 : It} {n n1 : Nat} {G G1 : Hp → Prop} {Y Y1 : Nat → Hp → V → Hp → Prop} {g g1 : TG} {tk tv : TE} {wi1 : TI} {vs vs1 : List Nat} {σ : L2.St} {H1 H4 : Hp} {D : Addr} {Qd Fin : Hp → Prop}
theorem dc_it (w : Walk J n G Y) (Pv : Nat → Hp → Prop) (h0 : Pv 0 (upd H1 D (.dK []))) (hG : ∀ i H, i ≤ n → Pv i H → G H)
    (hs : ∀ i x H H', i < n → Pv i H → Y i H x H' → g x (wipe σ vs) H' fun σ2 H2 => wipe σ2 vs = wipe σ vs ∧ tk σ2 H2 fun y H4 => tv σ2 H4 fun z H5 => ∃ kvs k, y = kV k ∧ H5 D = some (.dK kvs) ∧ kvs.length < sizeLine ∧ Pv (i + 1) (upd H5 D (.dK (putK kvs k z))))
    (hd : ∀ H, Pv n H → Qd H) : ∃ W : Nat → Nat → Hp → Prop, (∃ m, W 0 m (upd H1 D (.dK []))) ∧ ∀ i m H, W i m H →
      (J.stop i H ∧ Qd H) ∨ (J.go i H ∧ ∃ Nx : Hp → Prop, (∀ H', Nx H' → ∃ m', m' < m ∧ W (i + 1) m' H') ∧ ∀ x H', J.yld i H x H' → g x (wipe σ vs) H' fun σ2 H2 => wipe σ2 vs = wipe σ vs ∧ tYes σ2 H2 fun b H3 =>
        if b = true then tk σ2 H3 fun y H4 => tv σ2 H4 fun z H5 => ∃ kvs k, y = kV k ∧ H5 D = some (.dK kvs) ∧ kvs.length < sizeLine ∧ Nx (upd H5 D (.dK (putK kvs k z))) else Nx H3) := by
  refine ⟨fun i m H => m = n - i ∧ i ≤ n ∧ Pv i H, ⟨n, rfl, Nat.zero_le _, h0⟩, ?_⟩
  rintro i m H ⟨rfl, hi, p⟩
  by_cases hlt : i < n
  · exact .inr ⟨w.goes i H hlt (hG i H hi p), Pv (i + 1), fun H' p' => ⟨n - (i + 1), by omega, rfl, hlt, p'⟩, fun x H' y => hs i x H H' hlt p (w.yields i H x H' hlt (hG i H hi p) y)⟩
  · have e : i = n := by omega
    subst e
    exact .inl ⟨w.stops H (hG i H hi p), hd H p⟩
theorem dc2_it (w : Walk J n G Y) (Pv : Nat → Hp → Prop) (h0 : Pv 0 (upd H1 D (.dT []))) (hG : ∀ i H, i ≤ n → Pv i H → G H)
    (hs : ∀ i x H H', i < n → Pv i H → Y i H x H' → g x (wipe σ vs) H' fun σ2 H2 => wipe σ2 vs = wipe σ vs ∧ wi1 σ2 H2 fun J1 H4 => ∃ W1 : Nat → Nat → Hp → Prop, (∃ m, W1 0 m H4) ∧ InnerT J1 g1 tk tv vs1 D σ2 (Pv (i + 1)) W1)
    (hd : ∀ H, Pv n H → Qd H) : ∃ W : Nat → Nat → Hp → Prop, (∃ m, W 0 m (upd H1 D (.dT []))) ∧ ∀ i m H, W i m H →
      (J.stop i H ∧ Qd H) ∨ (J.go i H ∧ ∃ Nx : Hp → Prop, (∀ H', Nx H' → ∃ m', m' < m ∧ W (i + 1) m' H') ∧ ∀ x H', J.yld i H x H' → g x (wipe σ vs) H' fun σ2 H2 => wipe σ2 vs = wipe σ vs ∧
        wi1 σ2 H2 fun J1 H4 => ∃ W1 : Nat → Nat → Hp → Prop, (∃ m, W1 0 m H4) ∧ InnerT J1 g1 tk tv vs1 D σ2 Nx W1) := by
  refine ⟨fun i m H => m = n - i ∧ i ≤ n ∧ Pv i H, ⟨n, rfl, Nat.zero_le _, h0⟩, ?_⟩
  rintro i m H ⟨rfl, hi, p⟩
  by_cases hlt : i < n
  · exact .inr ⟨w.goes i H hlt (hG i H hi p), Pv (i + 1), fun H' p' => ⟨n - (i + 1), by omega, rfl, hlt, p'⟩, fun x H' y => hs i x H H' hlt p (w.yields i H x H' hlt (hG i H hi p) y)⟩
  · have e : i = n := by omega
    subst e
    exact .inl ⟨w.stops H (hG i H hi p), hd H p⟩
theorem inner_it (w : Walk J1 n1 G1 Y1) (Pv : Nat → Hp → Prop) (h0 : Pv 0 H4) (hG : ∀ i H, i ≤ n1 → Pv i H → G1 H)
    (hs : ∀ i x H H', i < n1 → Pv i H → Y1 i H x H' → g1 x (wipe σ vs1) H' fun σ3 H5 => wipe σ3 vs1 = wipe σ vs1 ∧
      tk σ3 H5 fun y H7 => tv σ3 H7 fun z H8 => ∃ kvs k b, y = .ref b ∧ H8 b = some (.tup (k.map kV)) ∧ H8 D = some (.dT kvs) ∧ kvs.length < sizeLine ∧ Pv (i + 1) (upd H8 D (.dT (putK kvs k z))))
    (hd : ∀ H, Pv n1 H → Fin H) : ∃ W1 : Nat → Nat → Hp → Prop, (∃ m, W1 0 m H4) ∧ InnerT J1 g1 tk tv vs1 D σ Fin W1 := by
  refine ⟨fun i m H => m = n1 - i ∧ i ≤ n1 ∧ Pv i H, ⟨n1, rfl, Nat.zero_le _, h0⟩, ?_⟩
  rintro i m H ⟨rfl, hi, p⟩
  by_cases hlt : i < n1
  · exact .inr ⟨w.goes i H hlt (hG i H hi p), Pv (i + 1), fun H' p' => ⟨n1 - (i + 1), by omega, rfl, hlt, p'⟩, fun x H' y => hs i x H H' hlt p (w.yields i H x H' hlt (hG i H hi p) y)⟩
  · have e : i = n1 := by omega
    subst e
    exact .inl ⟨w.stops H (hG i H hi p), hd H p⟩
end

/-! ### what the two dicts hold -/
def flat (es : List Ent) : List (Str × Mth) := es.flatMap fun e => e.meths.map fun m => (e.name, m)
abbrev OwnR (K : PySem.W.Frag) (H : Hp) : List (List Key × V) → List (Str × Mth) → Prop := Paired fun kv p => kv.1 = okey p.1 p.2.side ∧ Dp K H kv.2 (dMeth p.2)
theorem OwnR.same {K : PySem.W.Frag} {H H' : Hp} (s : Same H H') {kvs : List (List Key × V)} {ps : List (Str × Mth)} (h : OwnR K H kvs ps) : OwnR K H' kvs ps := Paired.mapP h fun _ _ z => ⟨z.1, Dp.same s z.2⟩
theorem okey_eq {n z n' z' : Str} : okey n z = okey n' z' ↔ n = n' ∧ z = z' := by
  constructor
  · intro h
    injection h with h1 h2
    injection h2 with h2 _
    exact ⟨Sum.inr.inj h1, Sum.inr.inj h2⟩
  · rintro ⟨rfl, rfl⟩
    rfl
theorem OwnR.val {K : PySem.W.Frag} {H : Hp} {n z : Str} {kvs : List (List Key × V)} {ps : List (Str × Mth)} (h : OwnR K H kvs ps) :
    (ps.find? (fun p => decide (p.1 = n) && decide (p.2.side = z)) = none ∧ valV kvs (okey n z) = none) ∨ ∃ p v, ps.find? (fun p => decide (p.1 = n) && decide (p.2.side = z)) = some p ∧ valV kvs (okey n z) = some v ∧ Dp K H v (dMeth p.2) := by
  induction h with
  | nil => exact .inl ⟨rfl, rfl⟩
  | @cons kv p kvs ps hp _ ih =>
    have e1 : decide (kv.1 = okey n z) = (decide (p.1 = n) && decide (p.2.side = z)) := by
      rw [hp.1, ← Bool.decide_and]
      exact decide_eq_decide.mpr okey_eq
    unfold valV at ih ⊢
    rw [List.find?_cons, List.find?_cons, e1]
    cases q : (decide (p.1 = n) && decide (p.2.side = z)) with
    | true => exact .inr ⟨p, kv.2, rfl, rfl, hp.2⟩
    | false => exact ih
theorem flat_find : ∀ {es : List Ent}, (names es).Nodup → ∀ n z : Str, (flat es).find? (fun p => decide (p.1 = n) && decide (p.2.side = z)) = (ownOf es n z).map fun m => (n, m)
  | [], _, _, _ => rfl
  | e :: es, nd, n, z => by
    have nd' : e.name ∉ names es ∧ (names es).Nodup := List.nodup_cons.mp nd
    have ih := flat_find nd'.2 n z
    have ef : flat (e :: es) = (e.meths.map fun m => (e.name, m)) ++ flat es := rfl
    rw [ef, List.find?_append, List.find?_map]
    unfold ownOf entOf
    rw [List.find?_cons]
    by_cases q : e.name = n
    · subst q
      have e1 : ((fun p : Str × Mth => decide (p.1 = e.name) && decide (p.2.side = z)) ∘ fun m => (e.name, m)) = fun m : Mth => decide (m.side = z) := by
        funext m
        simp
      rw [e1, decide_eq_true rfl, ih]
      show _ = ((some e).bind fun e => e.meths.find? fun m => decide (m.side = z)).map fun m => (e.name, m)
      cases q2 : e.meths.find? fun m => decide (m.side = z) with
      | some m => simp [q2]
      | none =>
        unfold ownOf
        rw [entOf_none nd'.1]
        simp [q2]
    · have e1 : ((fun p : Str × Mth => decide (p.1 = n) && decide (p.2.side = z)) ∘ fun m => (e.name, m)) = fun _ : Mth => false := by
        funext m
        simp [q]
      rw [e1, decide_eq_false q]
      have e2 : e.meths.find? (fun _ => false) = none := by
        rw [List.find?_eq_none]
        intro x _ hx
        cases hx
      rw [e2]
      exact ih
theorem OwnR.own {K : PySem.W.Frag} {H : Hp} {es : List Ent} (nd : (names es).Nodup) {kvs : List (List Key × V)} (h : OwnR K H kvs (flat es)) (n z : Str) :
    (ownOf es n z = none ∧ valV kvs (okey n z) = none) ∨ ∃ m v, ownOf es n z = some m ∧ valV kvs (okey n z) = some v ∧ Dp K H v (dMeth m) := by
  have hf := flat_find nd n z
  rcases h.val (n := n) (z := z) with ⟨a, b⟩ | ⟨p, v, a, b, c⟩
  · rw [a] at hf
    cases q : ownOf es n z with
    | none => exact .inl ⟨rfl, b⟩
    | some m => rw [q] at hf; cases hf
  · rw [a] at hf
    cases q : ownOf es n z with
    | none => rw [q] at hf; cases hf
    | some m =>
      rw [q] at hf
      cases hf
      exact .inr ⟨m, v, rfl, b, c⟩
end K11
namespace K11
open PySem PySem.Spec PyProof.Rows L2
section
variable {P : Program} {w : World} {K : PySem.W.Frag} {mg : Str → Option Value} {base : Heap} {C : Addr}
theorem take_next {α : Type} {l : List α} {i : Nat} {x : α} (h : l[i]? = some x) : l.take (i + 1) = l.take i ++ [x] := by
  rw [List.take_succ, h]
  rfl
theorem name_new {es : List Ent} (nd : (names es).Nodup) {i : Nat} {e : Ent} (h : es[i]? = some e) : e.name ∉ names (es.take i) := fun hm => by
  have e0 : names (es.take i) = (names es).take i := by
    unfold names
    rw [List.map_take]
  rw [e0] at hm
  obtain ⟨j, hj⟩ := List.mem_iff_getElem?.mp hm
  have hji : j < i := by
    have := (List.getElem?_eq_some_iff.mp hj).1
    rw [List.length_take] at this
    omega
  rw [List.getElem?_take_of_lt hji] at hj
  have hi2 : (names es)[i]? = some e.name := by
    show (es.map (·.name))[i]? = _
    rw [List.getElem?_map, h]
    rfl
  have := nodup_ix nd hj hi2
  omega
theorem parD_next {es : List Ent} (nd : (names es).Nodup) {i : Nat} {e : Ent} (h : es[i]? = some e) : putK (parD (es.take i)) (Sum.inr e.name : Key) (vOpt e.base) = parD (es.take (i + 1)) := by
  rw [putK_new _ (by rw [parD_get]; unfold parOf; rw [entOf_none (name_new nd h)]; rfl), take_next h]
  unfold parD
  rw [List.map_append]
  rfl
theorem flat_next {es : List Ent} {i : Nat} {e : Ent} (h : es[i]? = some e) : flat (es.take (i + 1)) = flat (es.take i) ++ e.meths.map fun m => (e.name, m) := by
  rw [take_next h]
  unfold flat
  rw [List.flatMap_append]
  simp
/-- a pair's key is not there yet -/
theorem own_new {H : Hp} {es : List Ent} (nd : (names es).Nodup) {i j : Nat} {e : Ent} {m : Mth} (h : es[i]? = some e) (hs : SidesOk e.meths) (hm : e.meths[j]? = some m) {kvs : List (List Key × V)}
    (r : OwnR K H kvs (flat (es.take i) ++ (e.meths.take j).map fun m => (e.name, m))) : valV kvs (okey e.name m.side) = none := by
  rcases r.val (n := e.name) (z := m.side) with ⟨_, b⟩ | ⟨p, v, a, _, _⟩
  · exact b
  · exfalso
    have hp := List.find?_some a
    simp only [Bool.and_eq_true, decide_eq_true_eq] at hp
    rcases List.mem_append.mp (List.mem_of_find?_eq_some a) with q | q
    · obtain ⟨e2, he2, q2⟩ := List.mem_flatMap.mp q
      obtain ⟨m2, _, rfl⟩ := List.mem_map.mp q2
      exact name_new nd h (hp.1 ▸ List.mem_map_of_mem he2)
    · obtain ⟨m2, hm2, rfl⟩ := List.mem_map.mp q
      obtain ⟨k, hk⟩ := List.mem_iff_getElem?.mp hm2
      have hkj : k < j := by
        have := (List.getElem?_eq_some_iff.mp hk).1
        rw [List.length_take] at this
        omega
      rw [List.getElem?_take_of_lt hkj] at hk
      have sn : (e.meths.map (·.side)).Nodup := List.Nodup.sublist hs (by decide +kernel)
      have a1 : (e.meths.map (·.side))[k]? = some m2.side := by rw [List.getElem?_map, hk]; rfl
      have a2 : (e.meths.map (·.side))[j]? = some m.side := by rw [List.getElem?_map, hm]; rfl
      rw [hp.2] at a1
      have := nodup_ix sn a1 a2
      omega
theorem OwnR.snoc {H : Hp} {kvs : List (List Key × V)} {ps : List (Str × Mth)} (r : OwnR K H kvs ps) {n : Str} {m : Mth} {v : V} (hn : valV kvs (okey n m.side) = none) (hd : Dp K H v (dMeth m)) : OwnR K H (putK kvs (okey n m.side) v) (ps ++ [(n, m)]) := by
  rw [putK_new _ hn]
  exact Paired.snoc r ⟨rfl, hd⟩
theorem OwnR.but {H H' : Hp} {b : Addr} (n : NoT H b) (s : But b H H') {kvs : List (List Key × V)} {ps : List (Str × Mth)} (h : OwnR K H kvs ps) : OwnR K H' kvs ps := Paired.mapP h fun _ p z => ⟨z.1, Dp.but n s (noL_meth p.2) z.2⟩
theorem OwnR.len {H : Hp} {kvs : List (List Key × V)} {ps : List (Str × Mth)} (r : OwnR K H kvs ps) : kvs.length = ps.length := Paired.length r
theorem flat_few {es : List Ent} (h : ∀ e ∈ es, SidesOk e.meths) : (flat es).length ≤ 3 * es.length := by
  induction es with
  | nil => exact Nat.le_refl _
  | cons e es ih =>
    have ef : flat (e :: es) = (e.meths.map fun m => (e.name, m)) ++ flat es := rfl
    rw [ef, List.length_append, List.length_map, List.length_cons]
    have h1 := sides_few (h e List.mem_cons_self)
    have h2 := ih fun x hx => h x (List.mem_cons_of_mem _ hx)
    omega

/-! ### fill -/
def spFill (K : PySem.W.Frag) (C : Addr) : Sp := fun vs H Q _ => ∃ (p r dx : Addr) (es : List Ent), vs = [.ref p, .ref r] ∧ H p = some (.ins C dx []) ∧ RowsAt K H r es ∧ WF es ∧ ∀ H', BookAt K C H' p es → But p H H' → Q .non H'
theorem scFill : FnScope ["self", "entries", "name", "base", "methods", "method"] ["self", "entries"] (defScope sFill) := ⟨rfl, rfl, rfl, by decide +kernel, rfl, by decide +kernel, by decide +kernel⟩
theorem RowsAt.but {H H' : Hp} {p r : Addr} {es : List Ent} (n : NoT H p) (hne : r ≠ p) (b : But p H H') (h : RowsAt K H r es) : RowsAt K H' r es := by
  obtain ⟨xs, h1, h2⟩ := h
  exact ⟨xs, b _ _ hne h1, DpAll.but n b (noLs_map noL_ent es) h2⟩
theorem ok_fill (T : Txt K mg) (B : Bok K C) (F : MetAt K C "fill" "Book.fill" sFill) : MCal P w K mg base C "fill" 1 ["self", "entries"] (spFill K C) := by
  refine mcal_of F scFill (fun vs H Q E h => ?_) (fun _ _ _ _ _ _ us hl => match us, hl with | [_, _], _ => rfl) (fun f cdv A outer s H vs Q E hr h => ?_)
  · obtain ⟨p, r, dx, es, rfl, _⟩ := h
    rfl
  · obtain ⟨p, r, dx, es, rfl, hp, ⟨xs, hr0, hxs⟩, wf, k⟩ := h
    have hu := hu_of hr
    have hlen : xs.length = es.length := DpAll.map_len hxs
    have hfew := wf.few
    refine ⟨_, pss_cons (ps_fld (pv 0) (pe_callTy call_list_of (by rfl) T.list boot_list (pa_cons (pv 1) pa_nil)) rfl)
      (pss_cons (ps_fld (pv 0) (pe_dc (own := [("name", 2), ("base", 3), ("methods", 4)]) (g := gTup K 3 (gCons (gName 2) (gCons (gName 3) (gCons (gName 4) gNil)))) (tt := tYes) rfl scFill.nd (pi_list (pv 1))
          (blkOk_by (N := ["self", "entries", "name", "base", "methods", "method"]) (sc := defScope sFill) (by decide +kernel))
          (fun _ _ _ _ _ => pg_tup rfl (pgs_cons (pg_name (i := 2) scFill.nd rfl (Or.inl rfl)) (pgs_cons (pg_name (i := 3) scFill.nd rfl (Or.inl rfl)) (pgs_cons (pg_name (i := 4) scFill.nd rfl (Or.inl rfl)) pgs_nil)))) (fun _ _ _ _ _ => pts_nil) (fun _ _ _ _ _ => pv 2) (fun _ _ _ _ _ => pv 3)) rfl)
      (pss_one (ps_fld (pv 0) (pe_dc2 (own := [("name", 2), ("base", 3), ("methods", 4), ("method", 5)]) (vs1 := [5]) (g := gTup K 3 (gCons (gName 2) (gCons (gName 3) (gCons (gName 4) gNil)))) (wi1 := iTup K (tVar 4)) (g1 := gName 5)
          (tk := tTup (tCons (tVar 2) (tCons (tOp (rIxT K) (tVar 5) (tC (.int 0))) tNil))) rfl scFill.nd hu (pi_list (pv 1))
          (blkOk_by (N := ["self", "entries", "name", "base", "methods", "method"]) (sc := defScope sFill) (by decide +kernel)) (by decide)
          (fun _ _ _ _ _ => pg_tup rfl (pgs_cons (pg_name (i := 2) scFill.nd rfl (Or.inl rfl)) (pgs_cons (pg_name (i := 3) scFill.nd rfl (Or.inl rfl)) (pgs_cons (pg_name (i := 4) scFill.nd rfl (Or.inl rfl)) pgs_nil)))) (fun _ _ _ _ _ => pi_tup (pv 4))
          (fun _ _ _ _ _ => pg_name (i := 5) scFill.nd rfl (Or.inl rfl)) (fun _ _ _ _ _ => pe_tup (pa_cons (pv 2) (pa_cons (pe_ix ix_tup (pv 5) pe_int (fun _ _ => rfl)) pa_nil))) (fun _ _ _ _ _ => pv 5)) rfl))), ?_⟩
    have nrp : r ≠ p := ne_of hr0 hp (by intro z; cases z)
    have nT : NoT H p := NoT.ins hp
    -- self.rows
    refine ⟨_, rfl, r, xs, rfl, .inl (.inl (.inl hr0)), fun l hl => ?_⟩
    have npl : p ≠ l := ne_of_none hp hl
    refine ⟨_, rfl, p, C, dx, [], rfl, by rw [upd_ne npl]; exact hp, B.cl, B.nR, (by show 0 < 1000; decide), ?_⟩
    generalize hH1 : upd (upd H l (.lst xs)) p (.ins C dx (putF "rows" (.ref l) [])) = H1
    have b1 : But p H H1 := by rw [← hH1]; exact but_self (but_over (But.refl _ _) hl)
    have p1 : H1 p = some (.ins C dx (putF "rows" (.ref l) [])) := by rw [← hH1]; exact upd_same
    have l1 : H1 l = some (.lst xs) := by rw [← hH1, upd_ne npl.symm]; exact upd_same
    have r1 : H1 r = some (.lst xs) := b1 _ _ nrp hr0
    -- self.parents
    refine ⟨_, rfl, r, rfl, ⟨_, .inl (.inl r1)⟩, fun D hD => ?_⟩
    have hD0 : p ≠ D := ne_of_none p1 hD
    have hlD : l ≠ D := ne_of_none l1 hD
    refine dc_it walk_list (fun i H' => But p H1 H' ∧ H' p = some (.ins C dx (putF "rows" (.ref l) [])) ∧ H' D = some (.dK (parD (es.take i)))) ⟨but_over (But.refl _ _) hD, by rw [upd_ne hD0]; exact p1, upd_same⟩ (fun i H' _ ⟨s1, _, _⟩ => .inl (.inl (s1 _ _ nrp r1))) ?_ ?_
    · rintro i y H2 H' hi ⟨b2, p2, d2⟩ ⟨rfl, hy⟩
      obtain ⟨e, he, hd⟩ := DpAll.map_get hxs hy
      obtain ⟨a, m, rfl, ht, _⟩ := ent_of (Dp.but nT (b1.trans b2) (noL_ent e) hd)
      refine ⟨a, _, rfl, ht, rfl, _, _, rfl, _, _, rfl, _, _, rfl, rfl, rfl, _, rfl, _, rfl, parD (es.take i), Sum.inr e.name, rfl, d2, small1000 (by simp [parD]; omega), but_over b2 hD, by rw [upd_ne hD0]; exact p2, ?_⟩
      rw [upd_same]
      exact congrArg (fun z => some (HO.dK z)) (parD_next wf.nd he)
    · rintro H2 ⟨b2, p2, d2⟩
      rw [show es.take xs.length = es by rw [hlen, List.take_length]] at d2
      refine ⟨_, rfl, p, C, dx, _, rfl, p2, B.cl, B.nP, (by show 1 < 1000; decide), ?_⟩
      generalize hH3 : upd H2 p (.ins C dx (putF "parents" (.ref D) (putF "rows" (.ref l) []))) = H3
      have b3 : But p H H3 := by rw [← hH3]; exact but_self (b1.trans b2)
      have p3 : H3 p = some (.ins C dx (putF "parents" (.ref D) (putF "rows" (.ref l) []))) := by rw [← hH3]; exact upd_same
      have l3 : H3 l = some (.lst xs) := by rw [← hH3, upd_ne npl.symm]; exact b2 _ _ npl.symm l1
      have d3 : H3 D = some (.dK (parD es)) := by rw [← hH3, upd_ne hD0.symm]; exact d2
      have r3 : H3 r = some (.lst xs) := b3 _ _ nrp hr0
      -- self.own
      refine ⟨_, rfl, r, rfl, ⟨_, .inl (.inl r3)⟩, fun D2 hD2 => ?_⟩
      have nT3 : NoT H3 p := NoT.ins p3
      have hpD2 : p ≠ D2 := ne_of_none p3 hD2
      refine dc2_it walk_list (fun i H' => Same H3 H' ∧ ∃ kvs, H' D2 = some (.dT kvs) ∧ OwnR K H' kvs (flat (es.take i))) ⟨same_new hD2, [], upd_same, .nil⟩ (fun i H' _ ⟨s1, _⟩ => .inl (.inl (s1 _ _ r3))) ?_ ?_
      · rintro i y H4 H' hi ⟨s4, kvs, k4, o4⟩ ⟨rfl, hy⟩
        obtain ⟨e, he, hd⟩ := DpAll.map_get hxs hy
        obtain ⟨a, m, rfl, ht3, hm3⟩ := ent_of (Dp.but nT b3 (noL_ent e) hd)
        obtain ⟨_, ms, ez, htm3, hms3⟩ := Dp.tup_of hm3
        cases ez
        have hin := List.mem_of_getElem? he
        have hml : ms.length = e.meths.length := DpAll.map_len hms3
        refine ⟨a, _, rfl, Same.seqT s4 ht3, rfl, _, _, rfl, _, _, rfl, _, _, rfl, rfl, rfl, _, rfl, m, rfl, ⟨ms, Same.seqT s4 htm3⟩, ?_⟩
        refine inner_it (walk_tup (xs := ms)) (fun j H5 => Same H3 H5 ∧ ∃ kvs, H5 D2 = some (.dT kvs) ∧ OwnR K H5 kvs (flat (es.take i) ++ (e.meths.take j).map fun m => (e.name, m))) ⟨s4, kvs, k4, by simpa using o4⟩ (fun j H5 _ ⟨s5, _⟩ => Same.seqT s5 htm3) ?_ ?_
        · rintro j y H5 H6 hj ⟨s5, kvs5, k5, o5⟩ ⟨rfl, hy2⟩
          obtain ⟨m1, hm1, hd1⟩ := DpAll.map_get hms3 hy2
          obtain ⟨a1, c1, rfl, ht1, _⟩ := meth_of (Dp.same s5 hd1)
          refine ⟨rfl, _, rfl, _, rfl, a1, _, _, _, rfl, rfl, ht1, rfl, two_le, fun q hq => ?_⟩
          have sq : Same H6 (upd H6 q (.tup [.str e.name, .str m1.side])) := same_new hq
          have hnew := own_new wf.nd he (wf.sd e hin) hm1 o5
          have hlen5 := o5.len
          have hf := flat_few (es := es.take i) fun x hx => wf.sd x (List.mem_of_mem_take hx)
          have hs3 := sides_few (wf.sd e hin)
          refine ⟨_, rfl, kvs5, okey e.name m1.side, q, rfl, upd_same, sq _ _ k5, small1000 ?_, same_over (s5.trans sq) hD2, _, upd_same, ?_⟩
          · rw [hlen5, List.length_append, List.length_map, List.length_take]
            rw [List.length_take] at hf
            omega
          · rw [take_next hm1, List.map_append, ← List.append_assoc]
            have n7 : NoT H6 D2 := NoT.dt k5
            have b7 : But D2 H6 (upd (upd H6 q (.tup [.str e.name, .str m1.side])) D2 (.dT (putK kvs5 (okey e.name m1.side) (.ref a1)))) := but_self (But.of sq)
            exact OwnR.snoc (OwnR.but n7 b7 o5) hnew (Dp.but n7 b7 (noL_meth m1) (Dp.same s5 hd1))
        · rintro H5 ⟨s5, kvs5, k5, o5⟩
          refine ⟨s5, kvs5, k5, ?_⟩
          rw [flat_next he]
          rw [hml, List.take_length] at o5
          exact o5
      · rintro H4 ⟨s4, kvs, k4, o4⟩
        rw [show es.take xs.length = es by rw [hlen, List.take_length]] at o4
        refine ⟨_, rfl, p, C, dx, _, rfl, s4 _ _ p3, B.cl, B.nO, (by show 2 < 1000; decide), ?_⟩
        have b5 : But p H (upd H4 p (.ins C dx (putF "own" (.ref D2) (putF "parents" (.ref D) (putF "rows" (.ref l) []))))) := but_self (b3.trans (But.of s4))
        refine k _ ⟨wf, dx, l, D, D2, kvs, upd_same, ⟨xs, ?_, DpAll.but nT b5 (noLs_map noL_ent es) hxs⟩, ?_, ?_, OwnR.own wf.nd ?_⟩ b5
        · rw [upd_ne npl.symm]; exact s4 _ _ l3
        · rw [upd_ne hD0.symm]; exact s4 _ _ d3
        · rw [upd_ne hpD2.symm]; exact k4
        · exact OwnR.but (NoT.ins (s4 _ _ p3)) (but_self (But.refl _ _)) o4

/-! ### __init__, and a book made -/
def spInit (K : PySem.W.Frag) (C : Addr) : Sp := spFill K C
theorem scInit : FnScope ["self", "entries"] ["self", "entries"] (defScope sInit) := ⟨rfl, rfl, rfl, by decide +kernel, rfl, by decide +kernel, by decide +kernel⟩
structure ICal (P : Program) (w : World) (K : PySem.W.Frag) (mg : Str → Option Value) (base : Heap) (C : Addr) : Prop where
  ex : ∃ f fd, FnOk P w K mg base CX0 6 f fd ["self", "entries"] (spInit K C) ∧ Mk K C f ∧ Binds K fd ["self", "entries"] [] ∧ mg "Book" = some (.ref C)
theorem ok_init (B : Bok K C) (F : ∃ f fd dv, FunD K "__init__" "Book.__init__" (defArgs sInit) (defBody sInit) (defScope sInit) [dv] [] f fd ∧ Mk K C f) (mC : mg "Book" = some (.ref C))
    (cE : Cal P w K mg base "check_entries" 5 ["value", "most"] (spCheckE K)) (cF : MCal P w K mg base C "fill" 1 ["self", "entries"] (spFill K C)) : ICal P w K mg base C := by
  obtain ⟨f, fd, dv, F, M⟩ := F
  obtain ⟨mc, u, cr, cv⟩ := B.lim
  refine ⟨f, fd, F.ok scInit (fun vs H Q E h => ?_) (fun cdv A outer s H vs Q E hr h => ?_), M, ?_, mC⟩
  · obtain ⟨p, r, dx, es, rfl, _⟩ := h
    rfl
  · obtain ⟨p, r, dx, es, rfl, hp, hR, wf, k⟩ := h
    have hr1 : Room 1 _ := hr.mono (by decide)
    refine ⟨_, PSs.nox (pss_cons (ps_expr (pe_cal cE hr (pa_cons (pv 1) (pa_cons (ClX.pe_cval (pe_glob (v := .ref C) (by rfl) mC rfl)) pa_nil))))
      (pss_one (ps_expr (pe_mcal cF B.cl hr1 (pv 0) (pa_cons (pv 1) pa_nil))))), ?_⟩
    refine ⟨_, rfl, C, mc, .int 10, u, rfl, cr, cv, r, es, rfl, hR, wf, fun H1 s1 => ?_⟩
    refine ⟨_, rfl, p, dx, [], rfl, s1 _ _ hp, rfl, _, rfl, p, r, dx, es, rfl, s1 _ _ hp, hR.same s1, wf, fun H' bk b' => ?_⟩
    exact k H' bk ((But.of s1).trans b')
  · obtain ⟨ds, rd, hb⟩ := F.binds1 (ps := ["self", "entries"]) 2 1 (List.cons_ne_nil _ _) rfl fun T kV doc pm an cdv ct us its h1 h2 => by
      match us, its, h1, h2 with
      | [_, _], [_], _, _ => exact ⟨_, rfl, rfl⟩
    have e : ds = [] := by
      have := rd.length
      exact List.eq_nil_of_length_eq_zero (by simpa using this.symm)
    rw [e] at hb
    exact hb
end
/-- Book(e) -/
def tNew (K : PySem.W.Frag) (C : Addr) (t : TA) : TE := fun σ H Q => t σ H fun vs H1 => ∃ (r : Addr) (es : List Ent), vs = [.ref r] ∧ RowsAt K H1 r es ∧ WF es ∧ ∀ x H', Same H1 H' → H1 x = none → BookAt K C H' x es → Q (.ref x) H'
theorem pe_new {X : Cx} {C : Addr} {e : Expr} {es : List Expr} {t : TA} {p pos : Pos} (c : ICal X.prog X.w X.K X.mg X.base C) (hr : Room 7 X.A) (ha : PA X (e :: es) t) (hg : Gl X "Book" := by rfl)
    (he : starEach (e :: es) X.env = (false, eval e X.env) :: starEach es X.env := by rfl) (hpl : (backTo pos (starEach es X.env)).any (·.1) = false := by rfl) : PE X (.Call (.Name "Book" p) (e :: es) [] pos) (tNew X.K C t) := by
  obtain ⟨f, fd, F, M, b, mC⟩ := c.ex
  refine ⟨fun pins s σ H Q I h => ?_⟩
  have z := pe_make (p := p) (pos := pos) M F hr hg mC b .nil (pass0 (X := X)) ha (he := he) (hpl := hpl)
  refine wpAny_Call_Name_kw (ld_glob I hg mC ?_)
  refine PySem.W.callWith_K (h₀ := X.base) I.ok.mod.kin M.kp (thn (ha.run pos pins s σ H _ I h) fun us s1 ⟨vs, H1, I1, r, rr, es, ev, hR, wf, q⟩ => ⟨I1.kIn, ?_⟩) he hpl
  subst ev
  refine run_make M F hr b .nil (pass0 (X := X)) I1 r fun x dx nx ndx ne => ?_
  have s1' : Same H1 (upd (upd H1 dx (.own x)) x (.ins C dx [])) := (same_new ndx).trans (same_new (by rw [upd_ne ne.symm]; exact nx))
  refine ⟨x, rr, dx, es, rfl, upd_same, hR.same s1', wf, fun H' bk b' => ⟨rfl, q x H' (fun y o e => b' y o (ne_of_none e nx) (s1' _ _ e)) nx bk⟩⟩
end K11
set_option Elab.async false
set_option linter.all false
set_option maxRecDepth 100000
set_option maxHeartbeats 4000000
/-! The walks: answers. -/
namespace K11
open PySem PySem.Spec PyProof.Rows L2

/-! ### more of the plain law -/
theorem findM_split {own : Str → Str → Option Mth} {z : Str} : ∀ {l : List Str} {h : Str} {m : Mth}, findM own z l = some (h, m) → ∃ pre t, l = pre ++ h :: t ∧ (∀ y ∈ pre, own y z = none) ∧ own h z = some m
  | [], _, _, e => by cases e
  | x :: l, h, m, e => by
    unfold findM at e
    cases q : own x z with
    | some m2 =>
      rw [q] at e
      cases e
      exact ⟨[], l, rfl, (fun y hy => nomatch hy), q⟩
    | none =>
      rw [q] at e
      obtain ⟨pre, t, h1, h2, h3⟩ := findM_split e
      refine ⟨x :: pre, t, by rw [h1]; rfl, fun y hy => ?_, h3⟩
      rcases List.mem_cons.mp hy with rfl | hy
      · exact q
      · exact h2 y hy
theorem askL_none {own : Str → Str → Option Mth} {L : List Str} {z n o : Str} : ∀ {l : List Str}, findM own z l = none → askL own L z n o l = none
  | [], _ => rfl
  | x :: l, e => by
    unfold findM at e
    unfold askL
    cases q : own x z with
    | some m => rw [q] at e; cases e
    | none =>
      rw [q] at e
      exact askL_none e
theorem askL_skip {own : Str → Str → Option Mth} {L : List Str} {z n o : Str} : ∀ {pre l : List Str}, (∀ y ∈ pre, own y z = none) → askL own L z n o (pre ++ l) = askL own L z n o l
  | [], _, _ => rfl
  | x :: pre, l, h => by
    show askL own L z n o (x :: (pre ++ l)) = _
    rw [askL, h x List.mem_cons_self]
    exact askL_skip fun y hy => h y (List.mem_cons_of_mem _ hy)
theorem askL_hit {own : Str → Str → Option Mth} {L : List Str} {z n o h : Str} {m : Mth} {t : List Str} (e : own h z = some m) : askL own L z n o (h :: t) = match caseF L m.cases 0 with
    | some (i, r) => some (h, i, resultF r n o)
    | none => if m.ending = sDec then none else askL own L z n o t := by
  rw [askL, e]
  try rfl
theorem caseF_hit {L : List Str} {c : Str × Str} : ∀ {pre t : List (Str × Str)} {i : Nat}, (∀ d ∈ pre, d.1 ∉ L) → c.1 ∈ L → caseF L (pre ++ c :: t) i = some (i + pre.length, c.2)
  | [], t, i, _, h => by
    show caseF L (c :: t) i = _
    rw [caseF, if_pos h]
    rfl
  | d :: pre, t, i, hp, h => by
    show caseF L (d :: (pre ++ c :: t)) i = _
    rw [caseF, if_neg (hp d List.mem_cons_self), caseF_hit (fun x hx => hp x (List.mem_cons_of_mem _ hx)) h, List.length_cons]
    congr 2
    omega
theorem caseF_none {L : List Str} : ∀ {cs : List (Str × Str)} {i : Nat}, (∀ d ∈ cs, d.1 ∉ L) → caseF L cs i = none
  | [], _, _ => rfl
  | d :: cs, i, h => by
    rw [caseF, if_neg (h d List.mem_cons_self)]
    exact caseF_none fun x hx => h x (List.mem_cons_of_mem _ hx)
theorem name_str {x : Str} (h : NameOk x) : PyData.canLay0 (.str x) = true := by
  rw [PyData.canLay0]
  unfold PyData.strOk
  rw [Array.all_eq_true_iff_forall_mem]
  intro c hc
  have := h.ab c (by simpa using hc)
  simp
  omega
theorem names_ok {es : List Ent} (w : WF es) {x : Str} (h : x ∈ names es) : NameOk x := by
  obtain ⟨e, he, rfl⟩ := List.mem_map.mp h
  exact w.ok e he
theorem strs_lay : ∀ {xs : List Str}, (∀ x ∈ xs, PyData.canLay0 (.str x) = true) → PyData.canLayAll0 (xs.map PyData.str) = true
  | [], _ => rfl
  | x :: xs, h => by
    rw [List.map_cons, PyData.canLayAll0, h x List.mem_cons_self, strs_lay fun y hy => h y (List.mem_cons_of_mem _ hy)]
    rfl
theorem strs_depth : ∀ xs : List Str, PyData.depthAll (xs.map PyData.str) = 0
  | [] => rfl
  | x :: xs => by
    rw [List.map_cons, PyData.depthAll, strs_depth xs]
    simp [PyData.depth]
theorem shaped_str {x : Str} (h : PyData.canLay0 (.str x) = true) : SeqAt.shaped (.str x) = true := by
  unfold SeqAt.shaped
  rw [h]
  simp [PyData.depth]
theorem shaped_strs {xs : List Str} (h : ∀ x ∈ xs, PyData.canLay0 (.str x) = true) : SeqAt.shaped (.list (xs.map PyData.str)) = true := by
  unfold SeqAt.shaped
  rw [PyData.canLay0, strs_lay h, PyData.depth, strs_depth]
  rfl
theorem shaped_opt {o : Option Str} (h : ∀ x, o = some x → PyData.canLay0 (.str x) = true) : SeqAt.shaped (dOpt o) = true := by
  cases o with
  | none => rfl
  | some x => exact shaped_str (h x rfl)
theorem shaped_nil : SeqAt.shaped (.list []) = true := rfl
theorem cut_from (xs : List V) (k : Nat) : cutV xs (some (k : Int)) none = xs.drop k := by
  unfold cutV
  rw [HT.sIx_nat, HT.sIx_none, List.take_of_length_le (by rw [List.length_drop]; exact Nat.le_refl _)]
  by_cases h : k ≤ xs.length
  · rw [Nat.min_eq_left h]
  · rw [Nat.min_eq_right (by omega), List.drop_length, List.drop_of_length_le (by omega)]

section
variable {P : Program} {w : World} {K : PySem.W.Frag} {mg : Str → Option Value} {base : Heap} {C : Addr}
/-! ### home_of -/
def spHome (K : PySem.W.Frag) (C : Addr) : Sp := fun vs H Q _ => ∃ (p : Addr) (es : List Ent) (n z : Str), vs = [.ref p, .str n, .str z] ∧ BookAt K C H p es ∧ n ∈ names es ∧ z ∈ sides ∧ ∀ H', Same H H' → Q (vOpt (homeF es n z)) H'
theorem scHome : FnScope ["book", "name", "side", "found"] ["book", "name", "side"] (defScope sHome) := ⟨rfl, rfl, rfl, by decide +kernel, rfl, by decide +kernel, by decide +kernel⟩
theorem ok_home (B : Bok K C) (F : FunAt K mg "home_of" sHome) (cM : MCal P w K mg base C "method" 4 ["self", "name", "side"] (spMethod K C)) : Cal P w K mg base "home_of" 5 ["book", "name", "side"] (spHome K C) := by
  refine cal_of F scHome (fun vs H Q E h => ?_) (fun _ _ _ _ _ _ us hl => match us, hl with | [_, _, _], _ => rfl) (fun f cdv A outer s H vs Q E hr h => ?_)
  · obtain ⟨p, es, n, z, rfl, _⟩ := h
    rfl
  · obtain ⟨p, es, n, z, rfl, Bk, hn, hz, k⟩ := h
    obtain ⟨wf, dx, r, pa, ow, kvs, h1, h2, h3, h4, h5⟩ := id Bk
    refine ⟨_, pss_cons (ps_set (i := 3) scHome.nd rfl (Or.inl rfl) (pe_mcal cM B.cl hr (pv 0) (pa_cons (pv 1) (pa_cons (pv 2) pa_nil))))
      (pss_one (ps_ret (pe_ifExp (pt_cmpR op_isN (pv 3) pe_non (nomark _)) pe_non (pe_ix ix_tup (pv 3) pe_int (fun _ _ => rfl))))), ?_⟩
    refine ⟨_, rfl, p, dx, _, rfl, h1, flds_no _ _ _ (by decide +kernel) (by decide +kernel) (by decide +kernel), _, rfl, _, rfl, p, es, n, z, rfl, Bk, hn, hz, fun H' v s' hv => ?_⟩
    have q := k H' s'
    unfold homeF at q
    refine ⟨_, rfl, rfl, _, rfl, ?_⟩
    cases e : methF es n z with
    | none =>
      rw [e] at hv q
      cases hv
      exact iteT q
    | some hm =>
      obtain ⟨h, m⟩ := hm
      rw [e] at hv q
      obtain ⟨b, c, rfl, hb, _⟩ := hv
      exact iteF ⟨_, rfl, b, _, _, _, rfl, rfl, .inl (.inl hb), rfl, q⟩
/-! ### is_prior -/
def spPrior (K : PySem.W.Frag) (C : Addr) : Sp := fun vs H Q _ => ∃ (p : Addr) (es : List Ent) (l r : Str), vs = [.ref p, .str l, .str r] ∧ BookAt K C H p es ∧ l ∈ names es ∧ r ∈ names es ∧ ∀ H', Same H H' → Q (.bl (priorF es l r)) H'
theorem scPrior : FnScope ["book", "left", "right", "home"] ["book", "left", "right"] (defScope sPrior) := ⟨rfl, rfl, rfl, by decide +kernel, rfl, by decide +kernel, by decide +kernel⟩
theorem sRef_in : sRef ∈ sides := by decide +kernel
theorem sFwd_in : sFwd ∈ sides := by decide +kernel
theorem sInp_in : sInp ∈ sides := by decide +kernel
theorem dec_str (a b : Str) : decide (V.str a = V.str b) = decide (a = b) := decide_eq_decide.mpr ⟨fun h => V.str.inj h, congrArg V.str⟩
theorem home_in {es : List Ent} (wf : WF es) {n z h : Str} (hn : n ∈ names es) (e : homeF es n z = some h) : h ∈ names es := by
  unfold homeF methF at e
  obtain ⟨p, hp, rfl⟩ := Option.map_eq_some_iff.mp e
  obtain ⟨pre, t, h1, _, _⟩ := findM_split (h := p.1) (m := p.2) hp
  exact bases_in wf hn (by rw [h1]; exact List.mem_append_right _ List.mem_cons_self)
theorem ok_prior (T : Txt K mg) (B : Bok K C) (F : FunAt K mg "is_prior" sPrior) (cC : MCal P w K mg base C "check" 2 ["self", "name"] (spCheck K C)) (cB : MCal P w K mg base C "belongs" 4 ["self", "name", "other"] (spBelongs K C))
    (cH : Cal P w K mg base "home_of" 5 ["book", "name", "side"] (spHome K C)) : Cal P w K mg base "is_prior" 6 ["book", "left", "right"] (spPrior K C) := by
  obtain ⟨tR, mR⟩ := T.ref
  refine cal_of F scPrior (fun vs H Q E h => ?_) (fun _ _ _ _ _ _ us hl => match us, hl with | [_, _, _], _ => rfl) (fun f cdv A outer s H vs Q E hr h => ?_)
  · obtain ⟨p, es, l, r, rfl, _⟩ := h
    rfl
  · obtain ⟨p, es, l, r, rfl, Bk, hl, hrn, k⟩ := h
    obtain ⟨wf, dx, rr, pa, ow, kvs, h1, h2, h3, h4, h5⟩ := id Bk
    have hr2 : Room 2 _ := hr.mono (by decide)
    have hr4 : Room 4 _ := hr.mono (by decide)
    refine ⟨_, pss_cons (ps_expr (pe_mcal cC B.cl hr2 (pv 0) (pa_cons (pv 1) pa_nil)))
      (pss_cons (ps_if (PW.pt (pw_or (pt_cmpR op_eq (pv 1) (pv 2) (nomark _)) (pw_or1 (pt_not (pt_val (pe_mcal cB B.cl hr4 (pv 0) (pa_cons (pv 2) (pa_cons (pv 1) pa_nil)))))))) (pss_one (ps_ret pe_bl)) pss_nil)
      (pss_cons (ps_set (i := 3) scPrior.nd rfl (Or.inl rfl) (pe_cal cH hr (pa_cons (pv 0) (pa_cons (pv 2) (pa_cons (pe_glob (v := .str sRef) (by rfl) mR ⟨_, rfl⟩) pa_nil)))))
      (pss_one (ps_ret (pe_and (pe_cmpR op_notN (pv 3) pe_non (nomark _)) (pe_one (pe_cmpR (op_neD hr.units) (pv 3) (pe_cal cH hr (pa_cons (pv 0) (pa_cons (pv 1) (pa_cons (pe_glob (v := .str sRef) (by rfl) mR ⟨_, rfl⟩) pa_nil)))) (nomark _)))))))), ?_⟩
    refine ⟨_, rfl, p, dx, _, rfl, h1, flds_no _ _ _ (by decide +kernel) (by decide +kernel) (by decide +kernel), _, rfl, p, es, l, rfl, Bk, hl, ?_⟩
    refine ⟨_, rfl, _, rfl, rfl, _, rfl, ?_⟩
    unfold priorF at k
    rw [dec_str]
    by_cases e1 : l = r
    · rw [decide_eq_true e1]
      rw [if_pos (.inl e1)] at k
      exact iteT (k H (Same.refl H))
    · rw [decide_eq_false e1]
      refine iteF ⟨_, rfl, p, dx, _, rfl, h1, flds_no _ _ _ (by decide +kernel) (by decide +kernel) (by decide +kernel), _, rfl, _, rfl, p, es, r, l, rfl, Bk, hrn, hl, fun H1 s1 => ⟨_, rfl, ?_⟩⟩
      by_cases e2 : l ∈ bases es r
      · rw [decide_eq_true e2]
        rw [if_neg (fun z => z.elim e1 fun z => z e2)] at k
        refine iteF ⟨_, rfl, _, rfl, p, es, r, sRef, rfl, Bk.same s1, hrn, sRef_in, fun H2 s2 => ?_⟩
        refine ⟨_, rfl, rfl, _, rfl, ?_⟩
        cases e3 : homeF es r sRef with
        | none =>
          rw [e3] at k
          exact iteF (k H2 (s1.trans s2))
        | some h =>
          rw [e3] at k
          refine iteT ⟨_, rfl, _, rfl, _, rfl, p, es, l, sRef, rfl, (Bk.same s1).same s2, hl, sRef_in, fun H3 s3 => ?_⟩
          refine ⟨.str h, dOpt (homeF es l sRef), .str h, Dp.opt, shaped_str (name_str (names_ok wf (home_in wf hrn e3))), shaped_opt fun x hx => name_str (names_ok wf (home_in wf hl hx)), ?_⟩
          have q := k H3 ((s1.trans s2).trans s3)
          have e4 : PyData.eqv (.str h) (dOpt (homeF es l sRef)) = decide (some h = homeF es l sRef) := by
            cases homeF es l sRef with
            | none => simp [dOpt, PyData.eqv]
            | some h2 => 
              rw [dOpt, PyData.eqv]
              by_cases e5 : h = h2
              · simp [e5]
              · simp [e5]
          rw [e4]
          exact q
      · rw [decide_eq_false e2]
        rw [if_pos (.inr e2)] at k
        exact iteT (k H1 s1)
/-! ### order_of -/
def dOrd (x : Ord) : D := .tuple [.str x.1, .str x.2.1, .str x.2.2]
def spOrder (K : PySem.W.Frag) (C : Addr) : Sp := fun vs H Q _ => ∃ (p : Addr) (es : List Ent) (l r : Str) (way : Bool), vs = [.ref p, .str l, .str r, .bl way] ∧ BookAt K C H p es ∧ l ∈ names es ∧ r ∈ names es ∧
  ∀ a xs H', Same H H' → H a = none → H' a = some (.lst xs) → DpAll K H' xs ((orderF es l r way).map dOrd) → Q (.ref a) H'
theorem scOrder : FnScope ["book", "left", "right", "inplace", "forward", "reflected", "first"] ["book", "left", "right", "inplace"] (defScope sOrder) := ⟨rfl, rfl, rfl, by decide +kernel, rfl, by decide +kernel, by decide +kernel⟩
theorem dp_ord {H : Hp} {a : Addr} {x : Ord} (h : H a = some (.tup [.str x.1, .str x.2.1, .str x.2.2])) : Dp K H (.ref a) (dOrd x) := .tup (.inl (.inl h)) (.cons (.str _) (.cons (.str _) (.cons (.str _) .nil)))
theorem ok_order (T : Txt K mg) (F : FunAt K mg "order_of" sOrder) (cP : Cal P w K mg base "is_prior" 6 ["book", "left", "right"] (spPrior K C)) : Cal P w K mg base "order_of" 7 ["book", "left", "right", "inplace"] (spOrder K C) := by
  obtain ⟨tR, mR⟩ := T.ref
  obtain ⟨tF, mF⟩ := T.fwd
  obtain ⟨tI, mI⟩ := T.inp
  refine cal_of F scOrder (fun vs H Q E h => ?_) (fun _ _ _ _ _ _ us hl => match us, hl with | [_, _, _, _], _ => rfl) (fun f cdv A outer s H vs Q E hr h => ?_)
  · obtain ⟨p, es, l, r, way, rfl, _⟩ := h
    rfl
  · obtain ⟨p, es, l, r, way, rfl, Bk, hl, hrn, k⟩ := h
    refine ⟨_, pss_cons (ps_par (i := 4) (j := 5) (by rfl) scOrder.nd rfl rfl (by decide) rfl rfl (pa_cons (pe_tup (pa_cons (pv 1) (pa_cons (pe_glob (v := .str sFwd) (by rfl) mF ⟨_, rfl⟩) (pa_cons (pv 2) pa_nil))))
        (pa_cons (pe_tup (pa_cons (pv 2) (pa_cons (pe_glob (v := .str sRef) (by rfl) mR ⟨_, rfl⟩) (pa_cons (pv 1) pa_nil)))) pa_nil)) (by rfl))
      (pss_cons (ps_set (i := 6) scOrder.nd rfl (Or.inl rfl) (pe_ifExp (pt_val (pv 3)) (pe_lst (pa_cons (pe_tup (pa_cons (pv 1) (pa_cons (pe_glob (v := .str sInp) (by rfl) mI ⟨_, rfl⟩) (pa_cons (pv 2) pa_nil)))) pa_nil)) (pe_lst pa_nil)))
      (pss_cons (ps_if (pt_val (pe_cal cP hr (pa_cons (pv 0) (pa_cons (pv 1) (pa_cons (pv 2) pa_nil))))) (pss_one (ps_ret (pe_lst (StX.pa_star (pv 6) (pa_cons (pv 5) (pa_cons (pv 4) pa_nil)))))) pss_nil)
      (pss_one (ps_ret (pe_ifExp (pt_cmpR op_eq (pv 1) (pv 2) (nomark _)) (pe_lst (StX.pa_star (pv 6) (pa_cons (pv 4) pa_nil))) (pe_lst (StX.pa_star (pv 6) (pa_cons (pv 4) (pa_cons (pv 5) pa_nil))))))))), ?_⟩
    refine ⟨_, rfl, _, rfl, three_le, fun a ha => ⟨_, rfl, _, rfl, three_le, fun b hb => ⟨_, _, rfl, ?_⟩⟩⟩
    have sa := same_new (o := .tup [V.str l, V.str sFwd, V.str r]) ha
    have sb := same_new (o := .tup [V.str r, V.str sRef, V.str l]) hb
    generalize hH1 : upd (upd H a (.tup [V.str l, V.str sFwd, V.str r])) b (.tup [V.str r, V.str sRef, V.str l]) = H1 at sb ⊢
    have s1 : Same H H1 := sa.trans sb
    have a1 : H1 a = some (.tup [V.str l, V.str sFwd, V.str r]) := sb _ _ upd_same
    have b1 : H1 b = some (.tup [V.str r, V.str sRef, V.str l]) := by rw [← hH1]; exact upd_same
    have one_le : 1 ≤ sizeLine := by decide
    refine ⟨_, rfl, way, rfl, ite2 (fun hw => ?_) (fun hw => ?_)⟩
    · refine ⟨_, rfl, _, rfl, three_le, fun c hc => ⟨one_le, fun q hq => ?_⟩⟩
      have sc := same_new (o := .tup [V.str l, V.str sInp, V.str r]) hc
      have sq := same_new (o := .lst [V.ref c]) hq
      have s2 := (s1.trans sc).trans sq
      have hq2 : upd (upd H1 c (.tup [V.str l, V.str sInp, V.str r])) q (.lst [V.ref c]) q = some (.lst [V.ref c]) := upd_same
      have hx2 : DpAll K (upd (upd H1 c (.tup [V.str l, V.str sInp, V.str r])) q (.lst [V.ref c])) [V.ref c] ((if way = true then [(l, sInp, r)] else [] : List Ord).map dOrd) := by
        rw [if_pos hw]
        exact .cons (dp_ord (x := (l, sInp, r)) (sq _ _ upd_same)) .nil
      have a2 := (sc.trans sq) _ _ a1
      have b2 := (sc.trans sq) _ _ b1
      generalize upd (upd H1 c (.tup [V.str l, V.str sInp, V.str r])) q (.lst [V.ref c]) = H2 at s2 hq2 hx2 a2 b2 ⊢
      refine ⟨_, rfl, _, rfl, _, rfl, p, es, l, r, rfl, Bk.same s2, hl, hrn, fun H3 s3 => ⟨_, rfl, ?_⟩⟩
      have ha3 := dp_ord (K := K) (x := (l, sFwd, r)) (s3 _ _ a2)
      have hb3 := dp_ord (K := K) (x := (r, sRef, l)) (s3 _ _ b2)
      have hx3 := DpAll.same s3 hx2
      unfold orderF at k
      refine ite2 (fun hp => ?_) (fun hp => ?_)
      · rw [if_pos hp, List.map_append] at k
        refine ⟨_, rfl, q, _, rfl, .inr (.inl (.inl (s3 _ _ hq2))), _, rfl, _, rfl, three_le, fun z hz => k z _ _ ((s2.trans s3).trans (same_new hz)) ((s2.trans s3).free hz) upd_same (DpAll.append (DpAll.same (same_new hz) hx3) (DpAll.same (same_new hz) (.cons hb3 (.cons ha3 .nil))))⟩
      · rw [if_neg hp, List.map_append] at k
        refine ⟨_, rfl, _, rfl, rfl, _, rfl, ?_⟩
        rw [dec_str]
        by_cases e : l = r
        · rw [if_pos e] at k
          rw [decide_eq_true e]
          exact iteT ⟨_, rfl, q, _, rfl, .inr (.inl (.inl (s3 _ _ hq2))), _, rfl, two_le, fun z hz => k z _ _ ((s2.trans s3).trans (same_new hz)) ((s2.trans s3).free hz) upd_same (DpAll.append (DpAll.same (same_new hz) hx3) (DpAll.same (same_new hz) (.cons ha3 .nil)))⟩
        · rw [if_neg e] at k
          rw [decide_eq_false e]
          exact iteF ⟨_, rfl, q, _, rfl, .inr (.inl (.inl (s3 _ _ hq2))), _, rfl, _, rfl, three_le, fun z hz => k z _ _ ((s2.trans s3).trans (same_new hz)) ((s2.trans s3).free hz) upd_same (DpAll.append (DpAll.same (same_new hz) hx3) (DpAll.same (same_new hz) (.cons ha3 (.cons hb3 .nil))))⟩
    · refine ⟨Nat.zero_le _, fun q hq => ?_⟩
      have sq := same_new (o := .lst []) hq
      have s2 := s1.trans sq
      have hq2 : upd H1 q (.lst []) q = some (.lst []) := upd_same
      have hx2 : DpAll K (upd H1 q (.lst [])) [] ((if way = true then [(l, sInp, r)] else [] : List Ord).map dOrd) := by
        rw [if_neg hw]
        exact .nil
      have a2 := sq _ _ a1
      have b2 := sq _ _ b1
      generalize upd H1 q (.lst []) = H2 at s2 hq2 hx2 a2 b2 ⊢
      refine ⟨_, rfl, _, rfl, _, rfl, p, es, l, r, rfl, Bk.same s2, hl, hrn, fun H3 s3 => ⟨_, rfl, ?_⟩⟩
      have ha3 := dp_ord (K := K) (x := (l, sFwd, r)) (s3 _ _ a2)
      have hb3 := dp_ord (K := K) (x := (r, sRef, l)) (s3 _ _ b2)
      have hx3 := DpAll.same s3 hx2
      unfold orderF at k
      refine ite2 (fun hp => ?_) (fun hp => ?_)
      · rw [if_pos hp, List.map_append] at k
        refine ⟨_, rfl, q, _, rfl, .inr (.inl (.inl (s3 _ _ hq2))), _, rfl, _, rfl, two_le, fun z hz => k z _ _ ((s2.trans s3).trans (same_new hz)) ((s2.trans s3).free hz) upd_same (DpAll.append (DpAll.same (same_new hz) hx3) (DpAll.same (same_new hz) (.cons hb3 (.cons ha3 .nil))))⟩
      · rw [if_neg hp, List.map_append] at k
        refine ⟨_, rfl, _, rfl, rfl, _, rfl, ?_⟩
        rw [dec_str]
        by_cases e : l = r
        · rw [if_pos e] at k
          rw [decide_eq_true e]
          exact iteT ⟨_, rfl, q, _, rfl, .inr (.inl (.inl (s3 _ _ hq2))), _, rfl, one_le, fun z hz => k z _ _ ((s2.trans s3).trans (same_new hz)) ((s2.trans s3).free hz) upd_same (DpAll.append (DpAll.same (same_new hz) hx3) (DpAll.same (same_new hz) (.cons ha3 .nil)))⟩
        · rw [if_neg e] at k
          rw [decide_eq_false e]
          exact iteF ⟨_, rfl, q, _, rfl, .inr (.inl (.inl (s3 _ _ hq2))), _, rfl, _, rfl, two_le, fun z hz => k z _ _ ((s2.trans s3).trans (same_new hz)) ((s2.trans s3).free hz) upd_same (DpAll.append (DpAll.same (same_new hz) hx3) (DpAll.same (same_new hz) (.cons ha3 (.cons hb3 .nil))))⟩
end
end K11
set_option Elab.async false
set_option linter.all false
set_option maxRecDepth 100000
set_option maxHeartbeats 4000000
/-! The walks: ask. -/
namespace K11
open PySem PySem.Spec PyProof.Rows L2
section
variable {P : Program} {w : World} {K : PySem.W.Frag} {mg : Str → Option Value} {base : Heap} {C : Addr}
abbrev Hit := Option (Str × Nat × Str)
def placeOf (z : Str) (a : Hit) : Option (Str × Str × Nat) := a.map fun p => (p.1, z, p.2.1)
def spAsk (K : PySem.W.Frag) (C : Addr) : Sp := fun vs H Q _ => ∃ (p : Addr) (es : List Ent) (n z o : Str), vs = [.ref p, .str n, .str z, .str o] ∧ BookAt K C H p es ∧ n ∈ names es ∧ o ∈ names es ∧ z ∈ sides ∧
  ∀ H' a v1, Same H H' → H' a = some (.tup [v1, vOpt ((askF es n z o).map (·.2.2))]) → Dp K H' v1 (dPlace (placeOf z (askF es n z o))) → Q (.ref a) H'
theorem scAsk : FnScope ["book", "name", "side", "other", "line", "found", "home", "cases", "ending", "index", "argument", "result", "above"] ["book", "name", "side", "other"] (defScope sAsk) := ⟨rfl, rfl, rfl, by decide +kernel, rfl, by decide +kernel, by decide +kernel⟩
/-- what holds ahead of each turn of the while: l is the rest of the line -/
def AskW (K : PySem.W.Frag) (es : List Ent) (p a : Addr) (n z o : Str) (H1 : Hp) (m : Nat) (σ : L2.St) (H : Hp) : Prop :=
  ∃ (l : List Str) (v : V) (r6 r7 r8 r9 r10 r11 r12 : Option V), σ = [some (.ref p), some (.str n), some (.str z), some (.str o), some (.ref a), some v, r6, r7, r8, r9, r10, r11, r12] ∧ l.length = m ∧ Same H1 H ∧
    (∃ pre, bases es n = pre ++ l) ∧ askF es n z o = askL (ownOf es) (bases es o) z n o l ∧ FoundAt K H v (findM (ownOf es) z l)
theorem eqv_nil (t : List Str) : PyData.eqv (.list (t.map PyData.str)) (.list []) = decide (t = []) := by
  cases t <;> simp [PyData.eqv, PyData.eqvAll]
theorem ok_ask (T : Txt K mg) (B : Bok K C) (F : FunAt K mg "ask" sAsk) (cR : Cal P w K mg base "result_of" 1 ["result", "own", "other"] spResult) (cBs : MCal P w K mg base C "bases" 3 ["self", "name"] (spBases K C))
    (cBl : MCal P w K mg base C "belongs" 4 ["self", "name", "other"] (spBelongs K C)) (cM : MCal P w K mg base C "method" 4 ["self", "name", "side"] (spMethod K C)) : Cal P w K mg base "ask" 5 ["book", "name", "side", "other"] (spAsk K C) := by
  obtain ⟨tD, mD⟩ := T.dec
  refine cal_of F scAsk (fun vs H Q E h => ?_) (fun _ _ _ _ _ _ us hl => match us, hl with | [_, _, _, _], _ => rfl) (fun f cdv A outer s H vs Q E hr h => ?_)
  · obtain ⟨p, es, n, z, o, rfl, _⟩ := h
    rfl
  · obtain ⟨p, es, n, z, o, rfl, Bk, hn, ho, hz, k⟩ := h
    obtain ⟨wf, dx, r, pa, ow, kvs, h1, h2, h3, h4, h5⟩ := id Bk
    have hr1 : Room 1 _ := hr.mono (by decide)
    have hr3 : Room 3 _ := hr.mono (by decide)
    have nom : ∀ {m : Str}, ¬ m = "rows" → ¬ m = "parents" → ¬ m = "own" → (flds r pa ow).lookup m = none := fun a b c => flds_no _ _ _ a b c
    refine ⟨_, pss_cons (ps_set (i := 4) scAsk.nd rfl (Or.inl rfl) (pe_mcal cBs B.cl hr3 (pv 0) (pa_cons (pv 1) pa_nil)))
      (pss_cons (ps_set (i := 5) scAsk.nd rfl (Or.inl rfl) (pe_mcal cM B.cl hr (pv 0) (pa_cons (pv 1) (pa_cons (pv 2) pa_nil))))
      (pss_cons (ps_while PassesOwn.never (pt_cmpR op_notN (pv 5) pe_non (nomark _))
        (pss_cons (ps_asg (pv 5) (pg_tup rfl (pgs_cons (pg_name (i := 6) scAsk.nd rfl (Or.inl rfl)) (pgs_cons (pg_name (i := 7) scAsk.nd rfl (Or.inl rfl)) (pgs_cons (pg_name (i := 8) scAsk.nd rfl (Or.inl rfl)) pgs_nil)))))
        (pss_cons (ps_for PassesOwn.never rfl (pi_enumT (by rfl) T.enumerate (pa_cons (pv 7) pa_nil))
            (pg_tup rfl (pgs_cons (pg_name (i := 9) scAsk.nd rfl (Or.inl rfl)) (pgs_cons (pg_tup rfl (pgs_cons (pg_name (i := 10) scAsk.nd rfl (Or.inl rfl)) (pgs_cons (pg_name (i := 11) scAsk.nd rfl (Or.inl rfl)) pgs_nil))) pgs_nil)))
            (pss_one (ps_if (pt_val (pe_mcal cBl B.cl hr (pv 0) (pa_cons (pv 3) (pa_cons (pv 10) pa_nil))))
              (pss_one (ps_ret (pe_tup (pa_cons (pe_tup (pa_cons (pv 6) (pa_cons (pv 2) (pa_cons (pv 9) pa_nil)))) (pa_cons (pe_cal cR hr1 (pa_cons (pv 11) (pa_cons (pv 1) (pa_cons (pv 3) pa_nil)))) pa_nil))))) pss_nil)))
        (pss_cons (ps_set (i := 12) scAsk.nd rfl (Or.inl rfl) (pe_slice sl_list (pv 4) (po_some (pe_op op_add (pe_bm PySem.F.plainAttrs_list PySem.F.slot_list_index PySem.F.type_list_index mt_index (pv 4) (pa_cons (pv 6) pa_nil)) pe_int)) po_none))
        (pss_one (ps_set (i := 5) scAsk.nd rfl (Or.inl rfl) (pe_ifExp (PW.pt (pw_or (pt_cmpR op_eq (pv 8) (pe_glob (v := .str sDec) (by rfl) mD ⟨_, rfl⟩) (nomark _)) (pw_or1 (pt_cmpR (op_eqD hr.units) (pv 12) (pe_lst pa_nil) (nomark _))))) pe_non
          (pe_mcal cM B.cl hr (pv 0) (pa_cons (pe_ix ix_list (pv 12) pe_int (fun _ _ => rfl)) (pa_cons (pv 2) pa_nil)))))))))) 
      (pss_one (ps_ret (pe_tup (pa_cons pe_non (pa_cons pe_non pa_nil))))))), ?_⟩
    refine ⟨_, rfl, p, dx, _, rfl, h1, nom (by decide +kernel) (by decide +kernel) (by decide +kernel), _, rfl, p, es, n, rfl, Bk, hn, fun a H1 s1 ha0 ha => ?_⟩
    refine ⟨_, rfl, p, dx, _, rfl, s1 _ _ h1, nom (by decide +kernel) (by decide +kernel) (by decide +kernel), _, rfl, _, rfl, p, es, n, z, rfl, Bk.same s1, hn, hz, fun H2 v s2 hv => ?_⟩
    refine ⟨AskW K es p a n z o H1, ⟨_, bases es n, v, none, none, none, none, none, none, none, rfl, rfl, s2, ⟨[], rfl⟩, rfl, hv⟩, ?_⟩
    rintro m σ H3 ⟨l, v, r6, r7, r8, r9, r10, r11, r12, rfl, rfl, s3, ⟨pre, epre⟩, eask, hfound⟩
    refine ⟨_, rfl, rfl, _, rfl, ?_⟩
    have s03 := s1.trans s3
    cases efm : findM (ownOf es) z l with
    | none =>
      rw [efm] at hfound
      cases hfound
      rw [decide_eq_true rfl]
      refine iteF ⟨two_le, fun q hq => ?_⟩
      rw [askL_none efm] at eask
      rw [eask] at k
      exact k _ q _ (s03.trans (same_new hq)) upd_same .non
    | some hm =>
      obtain ⟨h, mm⟩ := hm
      rw [efm] at hfound
      obtain ⟨b, c, rfl, hb, hc⟩ := hfound
      rw [decide_eq_false (fun z => nomatch z)]
      obtain ⟨pre2, t, el, hno, hown⟩ := findM_split efm
      obtain ⟨_, cs, ec, hct, hcs⟩ := Dp.tup_of hc
      cases ec
      have mok : MethOk (names es) mm := by
        unfold ownOf at hown
        cases q : entOf es h with
        | none => rw [q] at hown; cases hown
        | some e => rw [q] at hown; exact wf.ms e (wf.entIn q) mm (List.mem_of_find?_eq_some hown)
      have hlen : cs.length = mm.cases.length := DpAll.map_len hcs
      rw [el, askL_skip hno, askL_hit hown] at eask
      have hll : l.length = (pre2 ++ h :: t).length := by rw [el]
      refine iteT ⟨fun σ' H' => ∃ m', m' < l.length ∧ AskW K es p a n z o H1 m' σ' H', fun _ _ z => z, ⟨_, rfl, b, _, rfl, .inl (.inl hb), rfl, _, _, rfl, _, _, rfl, _, _, rfl, rfl, ?_⟩⟩
      -- the cases
      refine ⟨_, rfl, c, cs, rfl, hct, for_it walk_enumT (fun j σ' H4 => ∃ r9 r10 r11 : Option V, σ' = [some (.ref p), some (.str n), some (.str z), some (.str o), some (.ref a), some (.ref b), some (.str h), some (.ref c), some (.str mm.ending), r9, r10, r11, r12] ∧
        Same H3 H4 ∧ ∀ d ∈ mm.cases.take j, d.1 ∉ bases es o) ⟨_, _, _, rfl, Same.refl _, fun d hd => by cases hd⟩ (fun j σ' H4 _ ⟨_, _, _, _, s4, _⟩ => Same.seqT s4 hct) ?_ ?_⟩
      · rintro j y σ' H4 H5 hj ⟨r9, r10, r11, rfl, s4, hnot⟩ ⟨Tp, z1, z2, rfl, hT, rfl, hz1, hz2⟩
        cases hz1
        obtain ⟨cc, hcc, hdc⟩ := DpAll.map_get hcs hz2
        have sT : Same H4 (upd H4 Tp (.tup [.int (j : Nat), z2])) := same_new hT
        have s5 := (s03.trans s4).trans sT
        obtain ⟨ac, rfl, htc⟩ := case_of (Dp.same (s4.trans sT) hdc)
        have hin := List.mem_of_getElem? hcc
        refine ⟨Tp, _, rfl, .inl (.inl upd_same), rfl, _, _, rfl, _, _, rfl, ⟨ac, _, rfl, htc, rfl, _, _, rfl, _, _, rfl, rfl, rfl, ?_⟩⟩
        refine ⟨_, rfl, p, dx, _, rfl, s5 _ _ h1, nom (by decide +kernel) (by decide +kernel) (by decide +kernel), _, rfl, _, rfl, p, es, o, cc.1, rfl, Bk.same s5, ho, mok.arg cc hin, fun H6 s6 => ⟨_, rfl, ?_⟩⟩
        refine ite2 (fun hit => ?_) (fun miss => ?_)
        · have hit := of_decide_eq_true hit
          obtain ⟨hj1, hj2⟩ := List.getElem?_eq_some_iff.mp hcc
          have hcase : caseF (bases es o) mm.cases 0 = some (j, cc.2) := by
            have e1 : mm.cases = mm.cases.take j ++ cc :: mm.cases.drop (j + 1) := by rw [← hj2, ← List.drop_eq_getElem_cons hj1, List.take_append_drop]
            rw [e1, caseF_hit hnot hit, List.length_take, Nat.zero_add, Nat.min_eq_left (Nat.le_of_lt hj1)]
          rw [hcase] at eask
          refine ⟨_, rfl, _, rfl, _, rfl, three_le, fun q hq => ⟨_, rfl, _, rfl, _, rfl, cc.2, n, o, rfl, two_le, fun q2 hq2 => ?_⟩⟩
          have sq := same_new (o := .tup [V.str h, V.str z, V.int (j : Nat)]) hq
          have sq2 := same_new (o := .tup [V.ref q, V.str (resultF cc.2 n o)]) hq2
          rw [eask] at k
          exact k _ q2 _ (((s5.trans s6).trans sq).trans sq2) upd_same (.tup (.inl (.inl (sq2 _ _ upd_same))) (.cons (.str _) (.cons (.str _) (.cons (.int _) .nil))))
        · refine ⟨_, _, _, rfl, (s4.trans sT).trans s6, fun d hd => ?_⟩
          rw [take_next hcc] at hd
          rcases List.mem_append.mp hd with hd | hd
          · exact hnot d hd
          · have : d = cc := by simpa using hd
            rw [this]
            exact fun q => miss (decide_eq_true q)
      · rintro σ' H4 ⟨r9, r10, r11, rfl, s4, hnot⟩
        rw [hlen, List.take_length] at hnot
        rw [caseF_none hnot] at eask
        have ha4 := (s3.trans s4) _ _ ha
        have s04 := s03.trans s4
        have eb : bases es n = (pre ++ pre2) ++ h :: t := by rw [epre, el, List.append_assoc]
        have hnd : (bases es n).Nodup := (bases_ch wf hn).nodup
        have hj : (bases es n)[(pre ++ pre2).length]? = some h := by rw [eb, List.getElem?_append_right (Nat.le_refl _), Nat.sub_self]; rfl
        -- above = line[line.index(home) + 1:]
        refine ⟨_, rfl, _, rfl, .inl ⟨rfl, _, .inl (.inl ha4)⟩, _, rfl, a, _, .str h, (pre ++ pre2).length, .str h, rfl, rfl, .inl (.inl ha4), rfl, flat_strs _, by rw [List.getElem?_map, hj]; rfl, by simp [eqV], ?_, _, _, rfl, rfl, _, rfl, a, _, rfl, .inl (.inl ha4), fun q hq => ?_⟩
        · intro i z' hi hz'
          rw [List.getElem?_map] at hz'
          obtain ⟨x, hx, rfl⟩ := Option.map_eq_some_iff.mp hz'
          have hne : x ≠ h := fun e => by
            rw [e] at hx
            have := nodup_ix hnd hx hj
            omega
          simp [eqV, hne]
        · have ei : (((pre ++ pre2).length : Nat) : Int) + 1 = (((pre ++ pre2).length + 1 : Nat) : Int) := by omega
          have et : cutV ((bases es n).map V.str) (some ((((pre ++ pre2).length : Nat) : Int) + 1)) none = t.map V.str := by
            have eb2 : bases es n = ((pre ++ pre2) ++ [h]) ++ t := by rw [eb, List.append_assoc (pre ++ pre2)]; rfl
            rw [ei, cut_from, eb2, List.map_append]
            exact List.drop_left' (by rw [List.length_map, List.length_append]; rfl)
          rw [et]
          have sq := same_new (o := .lst (t.map V.str)) hq
          have hq5 : upd H4 q (.lst (t.map V.str)) q = some (.lst (t.map V.str)) := upd_same
          have s5 := s04.trans sq
          have s35 := (s3.trans s4).trans sq
          generalize upd H4 q (.lst (t.map V.str)) = H5 at sq hq5 s5 s35 ⊢
          have hpos : 0 < l.length := by rw [hll, List.length_append, List.length_cons]; omega
          have htl : t.length < l.length := by
            rw [hll, List.length_append, List.length_cons]
            omega
          have htn : ∀ x ∈ t, x ∈ names es := fun x hx => bases_in wf hn (by rw [eb]; exact List.mem_append_right _ (List.mem_cons_of_mem _ hx))
          refine ⟨_, rfl, rfl, _, rfl, ?_⟩
          rw [dec_str]
          by_cases ed : mm.ending = sDec
          · rw [decide_eq_true ed]
            rw [if_pos ed] at eask
            exact iteT (iteT ⟨0, hpos, [], .non, _, _, _, _, _, _, _, rfl, rfl, s35, ⟨bases es n, by simp⟩, by rw [eask]; rfl, rfl⟩)
          · rw [decide_eq_false ed]
            rw [if_neg ed] at eask
            refine iteF ⟨_, rfl, Nat.zero_le _, fun q2 hq2 => ⟨.list (t.map PyData.str), .list [], .lst (.inl (.inl ((same_new hq2) _ _ hq5))) (DpAll.strs t), .lst (.inl (.inl upd_same)) .nil, shaped_strs fun x hx => name_str (names_ok wf (htn x hx)), shaped_nil, _, rfl, ?_⟩⟩
            have sq2 := same_new (o := .lst []) hq2
            rw [eqv_nil]
            cases t with
            | nil => exact iteT ⟨0, hpos, [], .non, _, _, _, _, _, _, _, rfl, rfl, s35.trans sq2, ⟨bases es n, by simp⟩, eask, rfl⟩
            | cons x t' =>
              rw [decide_eq_false (List.cons_ne_nil _ _)]
              have hx := htn x List.mem_cons_self
              have ch : Ch (parOf es) (some x) (x :: t') := Ch.suffix (pre := (pre ++ pre2) ++ [h]) (by rw [show ((pre ++ pre2) ++ [h]) ++ x :: t' = bases es n by rw [eb, List.append_assoc (pre ++ pre2)]; rfl]; exact bases_ch wf hn)
              refine iteF ⟨_, rfl, p, dx, _, rfl, sq2 _ _ (s5 _ _ h1), nom (by decide +kernel) (by decide +kernel) (by decide +kernel), _, rfl, q, _, _, .str x, rfl, rfl, .inl (.inl (sq2 _ _ hq5)), atI_nat (j := 0) rfl, _, rfl, p, es, x, z, rfl, Bk.same (s5.trans sq2), hx, hz, fun H6 v s6 hv => ?_⟩
              unfold methF at hv
              rw [bases_of_ch wf hx ch] at hv
              exact ⟨_, htl, x :: t', v, _, _, _, _, _, _, _, rfl, rfl, (s35.trans sq2).trans s6, ⟨(pre ++ pre2) ++ [h], by rw [eb, List.append_assoc (pre ++ pre2)]; rfl⟩, eask, hv⟩
end
end K11
set_option Elab.async false
set_option linter.all false
set_option maxRecDepth 100000
set_option maxHeartbeats 4000000
/-! The walks: answer. -/
namespace K11
open PySem PySem.Spec PyProof.Rows L2
section
variable {P : Program} {w : World} {K : PySem.W.Frag} {mg : Str → Option Value} {base : Heap} {C : Addr}
def spAnswer (K : PySem.W.Frag) (C : Addr) : Sp := fun vs H Q _ => ∃ (p : Addr) (es : List Ent) (l r : Str) (way : Bool), vs = [.ref p, .str l, .str r, .bl way] ∧ BookAt K C H p es ∧ l ∈ names es ∧ r ∈ names es ∧
  ∀ v H', Same H H' → Dp K H' v (dAns (answerF es l r way)) → Q v H'
theorem scAnswer : FnScope ["book", "left", "right", "inplace", "attempts", "name", "side", "other", "place", "result"] ["book", "left", "right", "inplace"] (defScope sAnswer) := ⟨rfl, rfl, rfl, by decide +kernel, rfl, by decide +kernel, by decide +kernel⟩
structure ACal (P : Program) (w : World) (K : PySem.W.Frag) (mg : Str → Option Value) (base : Heap) (C : Addr) : Prop where
  ex : ∃ f fd, FnOk P w K mg base CX0 8 f fd ["book", "left", "right", "inplace"] (spAnswer K C) ∧ mg "answer" = some (.ref f) ∧ PySem.W.keepIn K (.ref f) = true ∧
    KBn K fd ["book", "left", "right", "inplace"] 3 ["inplace"] (fun us ws => us ++ ws) (fun vs zs => vs ++ zs)
theorem order_in {es : List Ent} {l r : Str} {way : Bool} {x : Ord} (hl : l ∈ names es) (hr : r ∈ names es) (h : x ∈ orderF es l r way) : x.1 ∈ names es ∧ x.2.1 ∈ sides ∧ x.2.2 ∈ names es := by
  have mem : x = (l, sInp, r) ∨ x = (r, sRef, l) ∨ x = (l, sFwd, r) := by
    unfold orderF at h
    rcases List.mem_append.mp h with h | h
    · split at h
      · exact .inl (List.mem_singleton.mp h)
      · cases h
    · split at h
      · rcases List.mem_cons.mp h with h | h
        · exact .inr (.inl h)
        · exact .inr (.inr (List.mem_singleton.mp h))
      · split at h
        · exact .inr (.inr (List.mem_singleton.mp h))
        · rcases List.mem_cons.mp h with h | h
          · exact .inr (.inr h)
          · exact .inr (.inl (List.mem_singleton.mp h))
  rcases mem with rfl | rfl | rfl
  · exact ⟨hl, sInp_in, hr⟩
  · exact ⟨hr, sRef_in, hl⟩
  · exact ⟨hl, sFwd_in, hr⟩
theorem ord_of {H : Hp} {v : V} {x : Ord} (h : Dp K H v (dOrd x)) : ∃ a, v = .ref a ∧ SqT K H a [.str x.1, .str x.2.1, .str x.2.2] := by
  obtain ⟨a, xs, rfl, h1, h2⟩ := Dp.tup_of h
  cases h2 with
  | cons a1 h2 => cases h2 with
    | cons a2 h2 => cases h2 with
      | cons a3 h2 =>
        cases h2
        cases a1
        cases a2
        cases a3
        exact ⟨a, rfl, h1⟩
theorem noL_place (o : Option (Str × Str × Nat)) : noL (dPlace o) = true := by
  rcases o with _ | ⟨h, s, i⟩ <;> simp [dPlace, noL, noLs]
theorem noL_att (a : Att) : noL (dAtt a) = true := by simp [dAtt, noL, noLs, noL_place]
theorem noL_ord (x : Ord) : noL (dOrd x) = true := by simp [dOrd, noL, noLs]
theorem answerL_none {es : List Ent} {n s o : Str} {t : List Ord} (h : homeF es n s = none) : answerL es ((n, s, o) :: t) = answerL es t := by
  rw [answerL, h]
theorem answerL_pass {es : List Ent} {n s o h : Str} {t : List Ord} (hh : homeF es n s = some h) (ha : askF es n s o = none) : answerL es ((n, s, o) :: t) = ((n, s, none) :: (answerL es t).1, (answerL es t).2) := by
  rw [answerL, hh, ha]
theorem answerL_hit {es : List Ent} {n s o h hh r : Str} {i : Nat} {t : List Ord} (hx : homeF es n s = some hh) (ha : askF es n s o = some (h, i, r)) : answerL es ((n, s, o) :: t) = ([(n, s, some (h, s, i))], some r) := by
  rw [answerL, hx, ha]
theorem dPlace_non {v : V} {H : Hp} {o : Option (Str × Str × Nat)} (h : Dp K H v (dPlace o)) : decide (v = V.non) = !o.isSome := by
  rcases o with _ | ⟨a, b, c⟩
  · cases h
    rfl
  · obtain ⟨p, xs, rfl, _⟩ := Dp.tup_of h
    rfl
theorem ok_answer (T : Txt K mg) (B : Bok K C) (F : ∃ f fd, FunD K "answer" "answer" (defArgs sAnswer) (defBody sAnswer) (defScope sAnswer) [] [("inplace", .bl false)] f fd ∧ mg "answer" = some (.ref f)) (cO : Cal P w K mg base "order_of" 7 ["book", "left", "right", "inplace"] (spOrder K C))
    (cH : Cal P w K mg base "home_of" 5 ["book", "name", "side"] (spHome K C)) (cA : Cal P w K mg base "ask" 5 ["book", "name", "side", "other"] (spAsk K C)) : ACal P w K mg base C := by
  obtain ⟨f, fd, F, hm⟩ := F
  refine ⟨f, fd, F.ok scAnswer (fun vs H Q E h => ?_) (fun cdv A outer s H vs Q E hr h => ?_), hm, F.kp, ?_⟩
  · obtain ⟨p, es, l, r, way, rfl, _⟩ := h
    rfl
  · obtain ⟨p, es, l, r, way, rfl, Bk, hl, hrn, k⟩ := h
    have hr5 : Room 5 _ := hr.mono (by decide)
    refine ⟨_, PSs.nox (pss_cons (ps_set (i := 4) scAnswer.nd rfl (Or.inl rfl) (pe_lst pa_nil))
      (pss_cons (ps_for PassesOwn.never rfl (pi_list (pe_cal cO hr (pa_cons (pv 0) (pa_cons (pv 1) (pa_cons (pv 2) (pa_cons (pv 3) pa_nil))))))
          (pg_tup rfl (pgs_cons (pg_name (i := 5) scAnswer.nd rfl (Or.inl rfl)) (pgs_cons (pg_name (i := 6) scAnswer.nd rfl (Or.inl rfl)) (pgs_cons (pg_name (i := 7) scAnswer.nd rfl (Or.inl rfl)) pgs_nil))))
        (pss_cons (ps_if (pt_cmpR op_isN (pe_cal cH hr5 (pa_cons (pv 0) (pa_cons (pv 5) (pa_cons (pv 6) pa_nil)))) pe_non (nomark _)) (pss_one ps_continue) pss_nil)
        (pss_cons (ps_asg (pe_cal cA hr5 (pa_cons (pv 0) (pa_cons (pv 5) (pa_cons (pv 6) (pa_cons (pv 7) pa_nil))))) (pg_tup rfl (pgs_cons (pg_name (i := 8) scAnswer.nd rfl (Or.inl rfl)) (pgs_cons (pg_name (i := 9) scAnswer.nd rfl (Or.inl rfl)) pgs_nil))))
        (pss_cons (ps_expr (pe_bm PySem.F.plainAttrs_list PySem.F.slot_list_append PySem.F.type_list_append mt_append (pv 4) (pa_cons (pe_tup (pa_cons (pv 5) (pa_cons (pv 6) (pa_cons (pv 8) pa_nil)))) pa_nil)))
        (pss_one (ps_if (pt_cmpR op_notN (pv 8) pe_non (nomark _)) (pss_one (ps_ret (pe_tup (pa_cons (pv 4) (pa_cons (pv 9) pa_nil))))) pss_nil))))))
      (pss_one (ps_ret (pe_tup (pa_cons (pv 4) (pa_cons pe_non pa_nil))))))), ?_⟩
    refine ⟨Nat.zero_le _, fun a ha => ?_⟩
    have sa := same_new (o := .lst []) ha
    refine ⟨_, rfl, _, rfl, _, rfl, _, rfl, p, es, l, r, way, rfl, Bk.same sa, hl, hrn, fun q xs H1 s1 hqn hq hxs => ?_⟩
    have hlen : xs.length = (orderF es l r way).length := DpAll.map_len hxs
    have hlo : (orderF es l r way).length ≤ 3 := by
      unfold orderF
      rw [List.length_append]
      have e1 : (if way = true then [(l, sInp, r)] else [] : List Ord).length ≤ 1 := by split <;> simp
      have e2 : (if priorF es l r = true then [(r, sRef, l), (l, sFwd, r)] else if l = r then [(l, sFwd, r)] else [(l, sFwd, r), (r, sRef, l)] : List Ord).length ≤ 2 := by
        split
        · simp
        · split <;> simp
      omega
    have ha1 : H1 a = some (.lst []) := s1 _ _ upd_same
    have hqa : q ≠ a := fun e => by
      rw [e, upd_same] at hqn
      cases hqn
    have s01 : Same H H1 := sa.trans s1
    refine ⟨q, rfl, ⟨xs, .inl (.inl hq)⟩, for_it walk_list (fun j σ' H2 => ∃ (acc : List Att) (vs : List V) (r5 r6 r7 r8 r9 : Option V), σ' = [some (.ref p), some (.str l), some (.str r), some (.bl way), some (.ref a), r5, r6, r7, r8, r9] ∧ Same H H2 ∧ H2 q = some (.lst xs) ∧ DpAll K H2 xs ((orderF es l r way).map dOrd) ∧
        H2 a = some (.lst vs) ∧ DpAll K H2 vs (acc.map dAtt) ∧ acc.length ≤ j ∧ answerF es l r way = (acc ++ (answerL es ((orderF es l r way).drop j)).1, (answerL es ((orderF es l r way).drop j)).2))
      ⟨[], [], _, _, _, _, _, rfl, s01, hq, hxs, ha1, .nil, Nat.zero_le _, rfl⟩ (fun j σ' H2 _ ⟨_, _, _, _, _, _, _, _, _, h, _⟩ => .inl (.inl h)) ?_ ?_⟩
    · rintro j y σ' H2 H3 hj ⟨acc, vs, r5, r6, r7, r8, r9, rfl, s2, hq2, hx2, ha2, hv2, hacc, eans⟩ ⟨rfl, hy⟩
      obtain ⟨⟨n, z, o⟩, ho, hd⟩ := DpAll.map_get hx2 hy
      obtain ⟨b, rfl, hb⟩ := ord_of hd
      obtain ⟨in1, in2, in3⟩ := order_in hl hrn (List.mem_of_getElem? ho)
      have edrop : (orderF es l r way).drop j = (n, z, o) :: (orderF es l r way).drop (j + 1) := by
        obtain ⟨h1, h2⟩ := List.getElem?_eq_some_iff.mp ho
        rw [List.drop_eq_getElem_cons h1, h2]
      rw [edrop] at eans
      refine ⟨b, _, rfl, hb, rfl, _, _, rfl, _, _, rfl, _, _, rfl, rfl, ?_⟩
      refine ⟨_, rfl, _, rfl, _, rfl, p, es, n, z, rfl, Bk.same s2, in1, in2, fun H4 s4 => ⟨rfl, _, rfl, ?_⟩⟩
      have s04 := s2.trans s4
      cases eh : homeF es n z with
      | none =>
        rw [answerL_none eh] at eans
        exact iteT ⟨acc, vs, _, _, _, _, _, rfl, s04, s4 _ _ hq2, DpAll.same s4 hx2, s4 _ _ ha2, DpAll.same s4 hv2, Nat.le_succ_of_le hacc, eans⟩
      | some hh =>
        refine iteF ⟨_, rfl, _, rfl, _, rfl, _, rfl, p, es, n, z, o, rfl, Bk.same s04, in1, in3, in2, fun H5 b2 v1 s5 hb2 hv1 => ?_⟩
        refine ⟨b2, _, rfl, .inl (.inl hb2), rfl, _, _, rfl, _, _, rfl, rfl, ?_⟩
        have s05 := s04.trans s5
        have ha5 := (s4.trans s5) _ _ ha2
        have hq5 := (s4.trans s5) _ _ hq2
        have hx5 := DpAll.same (s4.trans s5) hx2
        have hv5 := DpAll.same (s4.trans s5) hv2
        have hvl : vs.length = acc.length := DpAll.map_len hv2
        refine ⟨_, rfl, .inl ⟨rfl, _, .inl (.inl ha5)⟩, _, rfl, _, rfl, _, rfl, three_le, fun c hc => ⟨a, _, _, rfl, rfl, (same_new hc) _ _ ha5, small1000 (by omega), ?_⟩⟩
        have sc := same_new (o := .tup [V.str n, V.str z, v1]) hc
        have s06 : Same H (upd (upd H5 c (.tup [V.str n, V.str z, v1])) a (.lst (vs ++ [.ref c]))) := same_over (s05.trans sc) ha
        have nt : NoT (upd H5 c (.tup [V.str n, V.str z, v1])) a := NoT.lst (sc _ _ ha5)
        have b6 : But a (upd H5 c (.tup [V.str n, V.str z, v1])) (upd (upd H5 c (.tup [V.str n, V.str z, v1])) a (.lst (vs ++ [.ref c]))) := but_self (But.refl _ _)
        have hc6 : Dp K (upd H5 c (.tup [V.str n, V.str z, v1])) (.ref c) (dAtt (n, z, placeOf z (askF es n z o))) := .tup (.inl (.inl upd_same)) (.cons (.str _) (.cons (.str _) (.cons (Dp.same sc hv1) .nil)))
        have hv6 : DpAll K (upd (upd H5 c (.tup [V.str n, V.str z, v1])) a (.lst (vs ++ [.ref c]))) (vs ++ [.ref c]) ((acc ++ [(n, z, placeOf z (askF es n z o))]).map dAtt) := by
          rw [List.map_append]
          exact DpAll.append (DpAll.but nt b6 (noLs_map noL_att _) (DpAll.same sc hv5)) (DpAll.one (Dp.but nt b6 (noL_att _) hc6))
        have hq6 := b6 _ _ hqa (sc _ _ hq5)
        have hx6 := DpAll.but nt b6 (noLs_map noL_ord _) (DpAll.same sc hx5)
        have ha6 : upd (upd H5 c (.tup [V.str n, V.str z, v1])) a (.lst (vs ++ [.ref c])) a = some (.lst (vs ++ [.ref c])) := upd_same
        generalize upd (upd H5 c (.tup [V.str n, V.str z, v1])) a (.lst (vs ++ [.ref c])) = H6 at s06 hv6 hq6 hx6 ha6 ⊢
        refine ⟨_, rfl, rfl, _, rfl, ?_⟩
        rw [dPlace_non hv1]
        cases ek : askF es n z o with
        | none =>
          rw [answerL_pass eh ek] at eans
          rw [ek] at hv6
          refine iteF ⟨_, _, _, _, _, _, _, rfl, s06, hq6, hx6, ha6, hv6, ?_, ?_⟩
          · rw [List.length_append]
            exact Nat.succ_le_succ hacc
          · rw [eans, List.append_assoc]
            rfl
        | some pr =>
          obtain ⟨h1, i1, rr⟩ := pr
          rw [answerL_hit eh ek] at eans
          rw [ek] at hv6
          refine iteT ⟨_, rfl, _, rfl, two_le, fun d hd => ?_⟩
          have sd := same_new (o := .tup [V.ref a, vOpt (some rr)]) hd
          have e6 : answerF es l r way = (acc ++ [(n, z, some (h1, z, i1))], some rr) := eans
          refine k _ _ (s06.trans sd) ?_
          rw [e6]
          exact .tup (.inl (.inl upd_same)) (.cons (.lst (.inl (.inl (sd _ _ ha6))) (DpAll.same sd hv6)) (.cons (.str _) .nil))
    · rintro σ' H2 ⟨acc, vs, r5, r6, r7, r8, r9, rfl, s2, hq2, hx2, ha2, hv2, hacc, eans⟩
      rw [hlen, List.drop_length] at eans
      refine ⟨_, rfl, two_le, fun d hd => ?_⟩
      have sd := same_new (o := .tup [V.ref a, V.non]) hd
      have e6 : answerF es l r way = (acc, none) := by
        rw [eans, answerL, List.append_nil]
      refine k _ _ (s2.trans sd) ?_
      rw [e6]
      exact .tup (.inl (.inl upd_same)) (.cons (.lst (.inl (.inl (sd _ _ ha2))) (DpAll.same sd hv2)) (.cons .non .nil))
  · obtain ⟨mv, hb⟩ := F.kbinds0 (ps := ["book", "left", "right", "inplace"]) 3 ["inplace"] [] (fun us mv ws => us ++ ws) (List.cons_ne_nil _ _) (fun q hq => by cases hq) (fun r1 _ r3 => r1.append r3) fun D doc pm an cdv ct us mv ws h1 h2 h3 => by
      match us, mv, ws, h1, h2, h3 with
      | [_, _, _], [], [_], _, _, _ => exact rfl
    exact hb
def tAnsw (K : PySem.W.Frag) (C : Addr) (t tk : TA) : TE := fun σ H Q => t σ H fun vs H1 => tk σ H1 fun zs H2 => vs.length = 3 ∧ zs.length = 1 ∧ spAnswer K C (vs ++ zs) H2 Q E0
theorem pe_answer {X : Cx} {C : Addr} {e : Expr} {es : List Expr} {kws : List Keyword} {t tk : TA} {p pos : Pos} (c : ACal X.prog X.w X.K X.mg X.base C) (hr : Room 8 X.A) (ha : PA X (e :: es) t) (hkw : PK X kws tk) (hg : Gl X "answer" := by rfl)
    (hall : (backToKw pos (keywordEach kws X.env)).all (·.1.isSome) = true := by rfl) (hks : (backToKw pos (keywordEach kws X.env)).filterMap (·.1) = [("inplace" : Str)] := by rfl)
    (he : starEach (e :: es) X.env = (false, eval e X.env) :: starEach es X.env := by rfl) (hpl : ((backTo pos (starEach (e :: es) X.env)).any (·.1) || (backToKw pos (keywordEach kws X.env)).any (·.1.isNone)) = false := by rfl) :
    PE X (.Call (.Name "answer" p) (e :: es) kws pos) (tAnsw X.K C t tk) := by
  obtain ⟨f, fd, F, hm, kp, b⟩ := c.ex
  exact pe_callN F hr hg hm kp b (pass0 (X := X)) ha hkw hall hks (by decide) he hpl
end
end K11
set_option Elab.async false
set_option linter.all false
set_option maxRecDepth 100000
set_option maxHeartbeats 4000000
/-! The walks: the law's draws. -/
namespace K11
open PySem PySem.Spec PyProof.Rows L2
section
variable {P : Program} {w : World} {K : PySem.W.Frag} {mg : Str → Option Value} {base : Heap} {C : Addr}
theorem boot_abs : bootBuiltins "abs" = some (.builtin "abs") := by decide +kernel
def BagAt (H : Hp) (b : Addr) : Prop := ∃ d m c : Int, H b = some (.lst [.int d, .int m, .int c]) ∧ 0 ≤ m ∧ m < 2147483629
theorem BagAt.same {H H' : Hp} {b : Addr} (h : BagAt H b) (s : Same H H') : BagAt H' b := by
  obtain ⟨d, m, c, h, r⟩ := h
  exact ⟨d, m, c, s _ _ h, r⟩
theorem BagAt.noT {H : Hp} {b : Addr} (h : BagAt H b) : NoT H b := by
  obtain ⟨d, m, c, h, r⟩ := h
  exact NoT.lst h
theorem BagAt.ne {H : Hp} {b x : Addr} (h : BagAt H b) (n : H x = none) : x ≠ b := fun e => by
  obtain ⟨d, m, c, h, r⟩ := h
  rw [← e, n] at h
  cases h
def spBag (K : PySem.W.Frag) : Sp := fun vs H Q _ => ∃ (l : Addr) (ns : List Int) (j : Nat), vs = [.ref l, .int (j : Nat)] ∧ SqL K H l (ns.map V.int) ∧ j < 2 ∧ ∀ b H', Same H H' → H b = none → BagAt H' b → Q (.ref b) H'
theorem scBag : FnScope ["_law_script", "_law_at", "_law_cell", "_law_digits", "_law_mixed"] ["_law_script", "_law_at"] (defScope sLBag) := ⟨rfl, rfl, rfl, by decide +kernel, rfl, by decide +kernel, by decide +kernel⟩
theorem ok_bag (T : Txt K mg) (F : FunAt K mg "_law_bag" sLBag) : Cal P w K mg base "_law_bag" 1 ["_law_script", "_law_at"] (spBag K) := by
  refine cal_of F scBag (fun vs H Q E h => ?_) (fun _ _ _ _ _ _ us hl => match us, hl with | [_, _], _ => rfl) (fun f cdv A outer s H vs Q E hr h => ?_)
  · obtain ⟨l, ns, j, rfl, _⟩ := h
    rfl
  · obtain ⟨l, ns, j, rfl, hs, hj, k⟩ := h
    refine ⟨_, pss_cons (ps_set (i := 2) scBag.nd rfl (Or.inl rfl) (pe_ifExp (pt_cmpR op_lt (pv 1) (pe_callB call_len (by rfl) T.len boot_len (pa_cons (pv 0) pa_nil)) (nomark _)) (pe_ix ix_list (pv 0) (pv 1) (fun _ _ => rfl)) pe_int))
      (pss_cons (ps_set (i := 3) scBag.nd rfl (Or.inl rfl) (pe_ifExp (pt_cmpR op_ge (pe_callB call_abs (by rfl) T.abs boot_abs (pa_cons (pv 2) pa_nil)) (pe_op op_pow pe_int pe_int) (nomark _)) (pe_callB call_abs (by rfl) T.abs boot_abs (pa_cons (pv 2) pa_nil)) pe_int))
      (pss_cons (ps_set (i := 4) scBag.nd rfl (Or.inl rfl) (pe_op op_mod (pe_op op_pow (pe_op op_add (pe_op op_add (pe_op op_mod (pv 2) pe_int) (pe_op op_mul pe_int (pv 1))) pe_int) pe_int) pe_int))
      (pss_one (ps_ret (pe_lst (pa_cons (pv 3) (pa_cons (pe_op op_mod (pe_op op_add (pe_op op_add (pe_op op_mul (pv 4) pe_int) (pe_op op_mul pe_int (pv 1))) pe_int) pe_int) (pa_cons (pv 1) pa_nil)))))))), ?_⟩
    have cell : ∀ (G : VK), (∀ c : Int, G (.int c) H) → (tIf (tB (tLt (tVar 1) (tCB (rLen K) (tCons (tVar 0) tNil)))) (tOp (rIxL K) (tVar 0) (tVar 1)) (tC (.int 0))) [some (.ref l), some (.int (j : Nat)), none, none, none] H G := fun G hG => by
      refine ⟨_, rfl, _, rfl, _, _, rfl, .inl ⟨_, hs, rfl⟩, _, _, rfl, rfl, _, rfl, ite2 (fun hlt => ?_) (fun _ => hG 0)⟩
      have hlt := of_decide_eq_true hlt
      have hj2 : j < ns.length := by
        rw [List.length_map] at hlt
        omega
      exact ⟨_, rfl, _, rfl, l, _, _, _, rfl, rfl, hs, atI_cell hj2, hG _⟩
    refine cell _ fun c => ?_
    have fin : ∀ d : Int, tSeq (tAsg (tOp (rI (fun _ j => 0 < j) fun i j => .int (i % j)) (tOp (rI CPow fun i j => .int (i ^ j.toNat)) (tOp (rI0 fun i j => .int (i + j)) (tOp (rI0 fun i j => .int (i + j)) (tOp (rI (fun _ j => 0 < j) fun i j => .int (i % j)) (tVar 2) (tC (.int 2147483629))) (tOp (rI CMul fun i j => .int (i * j)) (tC (.int 6007)) (tVar 1))) (tC (.int 31))) (tC (.int 5))) (tC (.int 2147483587))) (gName 4))
      (tRet (tLst (tCons (tVar 3) (tCons (tOp (rI (fun _ j => 0 < j) fun i j => .int (i % j)) (tOp (rI0 fun i j => .int (i + j)) (tOp (rI0 fun i j => .int (i + j)) (tOp (rI CMul fun i j => .int (i * j)) (tVar 4) (tC (.int 39373))) (tOp (rI CMul fun i j => .int (i * j)) (tC (.int 90001)) (tVar 1))) (tC (.int 11))) (tC (.int 2147483629))) (tCons (tVar 1) tNil)))))
      { nx := fun _ H' => Q .non H', rt := Q } [some (.ref l), some (.int (j : Nat)), some (.int c), some (.int d), none] H := fun d => by
      have m1 := Int.emod_nonneg c (show (2147483629 : Int) ≠ 0 by decide)
      have m2 := Int.emod_lt_of_pos c (show (0 : Int) < 2147483629 by decide)
      refine ⟨_, rfl, _, _, rfl, rfl, (by decide : (0 : Int) < 2147483629), _, rfl, _, _, rfl, rfl, .inl (by decide), _, _, rfl, rfl, _, _, rfl, rfl, _, _, rfl, rfl, ⟨by decide, by decide, by omega⟩, _, _, rfl, rfl, (by decide : (0 : Int) < 2147483587), ?_⟩
      generalize (c % 2147483629 + 6007 * (j : Nat) + 31) ^ ((5 : Int).toNat) % 2147483587 = mx
      refine ⟨_, rfl, _, rfl, _, _, rfl, rfl, .inr (by decide), _, rfl, _, _, rfl, rfl, .inl (by decide), _, _, rfl, rfl, _, _, rfl, rfl, _, _, rfl, rfl, (by decide : (0 : Int) < 2147483629), _, rfl, three_le, fun a ha => ?_⟩
      exact k a _ (same_new ha) ha ⟨_, _, _, upd_same, Int.emod_nonneg _ (by decide), Int.emod_lt_of_pos _ (by decide)⟩
    refine ⟨_, rfl, c, rfl, _, _, rfl, rfl, ⟨by decide, by decide, by decide⟩, _, _, rfl, rfl, _, rfl, ite2 (fun _ => ?_) (fun _ => fin 0)⟩
    exact ⟨_, rfl, c, rfl, fin _⟩
/-- a number from 0 to m - 1 -/
def spTake (K : PySem.W.Frag) : Sp := fun vs H Q _ => ∃ (b : Addr) (m : Nat), vs = [.ref b, .int (m : Nat)] ∧ 0 < m ∧ m < 1000 ∧ BagAt H b ∧ ∀ (k : Nat) H', k < m → But b H H' → BagAt H' b → Q (.int (k : Nat)) H'
theorem scTake : FnScope ["_law_bag_here", "_law_many", "_law_digit"] ["_law_bag_here", "_law_many"] (defScope sLTake) := ⟨rfl, rfl, rfl, by decide +kernel, rfl, by decide +kernel, by decide +kernel⟩
theorem ok_take (F : FunAt K mg "_law_take" sLTake) : Cal P w K mg base "_law_take" 1 ["_law_bag_here", "_law_many"] (spTake K) := by
  refine cal_of F scTake (fun vs H Q E h => ?_) (fun _ _ _ _ _ _ us hl => match us, hl with | [_, _], _ => rfl) (fun f cdv A outer s H vs Q E hr h => ?_)
  · obtain ⟨b, m, rfl, _⟩ := h
    rfl
  · obtain ⟨b, m, rfl, hm, hm2, ⟨d, e, c, hb, e1, e2⟩, k⟩ := h
    refine ⟨_, pss_cons (ps_if (pt_cmpR op_gt (pe_ix ix_list (pv 0) pe_int (fun _ _ => rfl)) pe_int (nomark _))
        (pss_cons (ps_set (i := 2) scTake.nd rfl (Or.inl rfl) (pe_op op_mod (pe_ix ix_list (pv 0) pe_int (fun _ _ => rfl)) (pv 1)))
        (pss_cons (ps_asg (pe_op op_fdiv (pe_ix ix_list (pv 0) pe_int (fun _ _ => rfl)) (pv 1)) (pg_sub (pv 0) pe_int set_list))
        (pss_one (ps_ret (pv 2))))) pss_nil)
      (pss_cons (ps_asg (pe_op op_add (pe_ix ix_list (pv 0) pe_int (fun _ _ => rfl)) pe_int) (pg_sub (pv 0) pe_int set_list))
      (pss_cons (ps_asg (pe_op op_mod (pe_op op_add (pe_op op_add (pe_op op_mul (pe_ix ix_list (pv 0) pe_int (fun _ _ => rfl)) pe_int) (pe_op op_mul pe_int (pe_ix ix_list (pv 0) pe_int (fun _ _ => rfl)))) pe_int) pe_int) (pg_sub (pv 0) pe_int set_list))
      (pss_one (ps_ret (pe_op op_mod (pe_op op_fdiv (pe_op op_mod (pe_op op_pow (pe_op op_fdiv (pe_ix ix_list (pv 0) pe_int (fun _ _ => rfl)) pe_int) pe_int) pe_int) pe_int) (pv 1)))))), ?_⟩
    have mlt : (m : Int) < 1073741824 := by omega
    have mpos : (0 : Int) < (m : Nat) := by omega
    have res : ∀ x : Int, ∃ n : Nat, n < m ∧ x % (m : Nat) = (n : Nat) := fun x => by
      have h1 := Int.emod_nonneg x (show ((m : Nat) : Int) ≠ 0 by omega)
      have h2 := Int.emod_lt_of_pos x mpos
      exact ⟨(x % (m : Nat)).toNat, by omega, (Int.toNat_of_nonneg h1).symm⟩
    refine ⟨_, rfl, b, _, 0, _, rfl, rfl, .inl (.inl hb), rfl, _, _, rfl, rfl, _, rfl, ite2 (fun _ => ?_) (fun _ => ?_)⟩
    · obtain ⟨n, hn, en⟩ := res d
      refine ⟨_, rfl, b, _, 0, _, rfl, rfl, .inl (.inl hb), rfl, _, rfl, _, _, rfl, rfl, mpos, ?_⟩
      show gName 2 (.int (d % (m : Nat))) _ _ _
      rw [en]
      refine ⟨_, rfl, b, _, 0, _, rfl, rfl, .inl (.inl hb), rfl, _, rfl, _, _, rfl, rfl, ⟨mpos, mlt⟩, _, rfl, b, _, 0, 0, rfl, rfl, hb, rfl, _, rfl, ?_⟩
      exact k n _ hn (but_self (But.refl _ _)) ⟨_, e, c, upd_same, e1, e2⟩
    · refine ⟨_, rfl, b, _, 2, _, rfl, rfl, .inl (.inl hb), rfl, _, _, rfl, rfl, _, rfl, b, _, 2, 2, rfl, rfl, hb, rfl, ?_⟩
      have hb1 : upd H b (.lst (([.int d, .int e, .int c] : List V).set 2 (.int (c + 1)))) b = some (.lst [.int d, .int e, .int (c + 1)]) := upd_same
      refine ⟨_, rfl, b, _, 1, _, rfl, rfl, .inl (.inl hb1), rfl, _, _, rfl, rfl, .inr (by decide), _, rfl, b, _, 2, _, rfl, rfl, .inl (.inl hb1), rfl, _, _, rfl, rfl, .inl (by decide), _, _, rfl, rfl, _, _, rfl, rfl, _, _, rfl, rfl, (by decide : (0 : Int) < 2147483629), ?_⟩
      have g1 : 0 ≤ (e * 48271 + 7109 * (c + 1) + 13) % 2147483629 := Int.emod_nonneg _ (by decide)
      have g2 : (e * 48271 + 7109 * (c + 1) + 13) % 2147483629 < 2147483629 := Int.emod_lt_of_pos _ (by decide)
      show gSub (tVar 0) (tC (V.int 1)) rSetL (.int ((e * 48271 + 7109 * (c + 1) + 13) % 2147483629)) _ (upd H b (.lst (([.int d, .int e, .int c] : List V).set 2 (.int (c + 1))))) _
      generalize (e * 48271 + 7109 * (c + 1) + 13) % 2147483629 = e' at g1 g2 ⊢
      refine ⟨_, rfl, b, _, 1, 1, rfl, rfl, hb1, rfl, ?_⟩
      have hb2 : upd (upd H b (.lst (([.int d, .int e, .int c] : List V).set 2 (.int (c + 1))))) b (.lst (([.int d, .int e, .int (c + 1)] : List V).set 1 (.int e'))) b = some (.lst [.int d, .int e', .int (c + 1)]) := upd_same
      refine ⟨_, rfl, b, _, 1, _, rfl, rfl, .inl (.inl hb2), rfl, _, _, rfl, rfl, ⟨by decide, by decide⟩, _, _, rfl, rfl, ⟨by decide, by decide, ?_⟩, _, _, rfl, rfl, (by decide : (0 : Int) < 2147483579), _, _, rfl, rfl, ⟨by decide, by decide⟩, _, rfl, _, _, rfl, rfl, mpos, ?_⟩
      · have : e' / 8 < 2 ^ 64 := by omega
        have : 0 ≤ e' / 8 := by omega
        omega
      · obtain ⟨n, hn, en⟩ := res ((e' / 8) ^ ((3 : Int).toNat) % 2147483579 / 4)
        show Q (.int ((e' / 8) ^ ((3 : Int).toNat) % 2147483579 / 4 % (m : Nat))) _
        rw [en]
        exact k n _ hn (but_self (but_self (But.refl _ _))) ⟨_, e', _, upd_same, g1, g2⟩
end
end K11
set_option Elab.async false
set_option linter.all false
set_option maxRecDepth 100000
set_option maxHeartbeats 4000000
/-! The walks: the law's names, methods, entries. -/
namespace K11
open PySem PySem.Spec PyProof.Rows L2
section
variable {P : Program} {w : World} {K : PySem.W.Frag} {mg : Str → Option Value} {base : Heap} {C : Addr}
def all12 : List Str := ["a", "b", "ab", "num", "nut", "vec", "mat", "class", "longer", "longes", "z", "zz"]
instance (x : Str) : Decidable (NameOk x) := decidable_of_iff (1 ≤ x.length ∧ x.length ≤ 6 ∧ x ∉ reserved ∧ ∀ c ∈ x.cps.toList, 97 ≤ c ∧ c ≤ 122) ⟨fun ⟨a, b, c, d⟩ => ⟨a, b, c, d⟩, fun ⟨a, b, c, d⟩ => ⟨a, b, c, d⟩⟩
theorem all12_ok : ∀ x ∈ all12, NameOk x := by decide +kernel
theorem all12_nd : all12.Nodup := by decide +kernel
theorem six_nat {k n : Nat} (h : k < n) : seqIndex? (k : Int) n = some k := by
  rw [seqIndex_of (by omega) (by omega)]
  rfl
/-- what only b's object changes keeps what stands elsewhere -/
theorem But.get {b x : Addr} {H H' : Hp} {o : HO} (h : But b H H') (n : x ≠ b) (e : H x = some o) : H' x = some o := h x o n e
theorem But.free {b x : Addr} {H H' : Hp} (h : But b H H') (n : x ≠ b) (e : H' x = none) : H x = none := by
  cases q : H x with
  | none => rfl
  | some o =>
    rw [h x o n q] at e
    cases e
def spNames (K : PySem.W.Frag) : Sp := fun vs H Q _ => ∃ (b : Addr) (m : Nat), vs = [.ref b, .int (m : Nat)] ∧ m ≤ 7 ∧ BagAt H b ∧
  ∀ a (xs : List Str) H', But b H H' → BagAt H' b → a ≠ b → H' a = some (.lst (xs.map V.str)) → xs.length = m → xs.Nodup → (∀ x ∈ xs, NameOk x) → Q (.ref a) H'
theorem scNames : FnScope ["_law_bag_here", "_law_many", "_law_left", "_law_turn"] ["_law_bag_here", "_law_many"] (defScope sLNames) := ⟨rfl, rfl, rfl, by decide +kernel, rfl, by decide +kernel, by decide +kernel⟩
theorem map_erase {α β : Type} (f : α → β) (ls : List α) (j : Nat) : (ls.map f).eraseIdx j = (ls.eraseIdx j).map f := by
  rw [List.eraseIdx_eq_take_drop_succ, List.eraseIdx_eq_take_drop_succ, List.map_append, List.map_take, List.map_drop]
theorem perm_pick {xs ls : List Str} {k : Nat} {y : Str} (h : ls[k]? = some y) : (xs ++ ls).Perm ((xs ++ [y]) ++ ls.eraseIdx k) := by
  obtain ⟨h1, h2⟩ := List.getElem?_eq_some_iff.mp h
  rw [List.append_assoc]
  refine List.Perm.append_left xs ?_
  have e : ls = ls.take k ++ y :: ls.drop (k + 1) := by rw [← h2, ← List.drop_eq_getElem_cons h1, List.take_append_drop]
  rw [List.eraseIdx_eq_take_drop_succ]
  exact (List.Perm.of_eq e).trans List.perm_middle
theorem ok_names (T : Txt K mg) (F : FunAt K mg "_law_names" sLNames) (cT : Cal P w K mg base "_law_take" 1 ["_law_bag_here", "_law_many"] (spTake K)) : Cal P w K mg base "_law_names" 2 ["_law_bag_here", "_law_many"] (spNames K) := by
  refine cal_of F scNames (fun vs H Q E h => ?_) (fun _ _ _ _ _ _ us hl => match us, hl with | [_, _], _ => rfl) (fun f cdv A outer s H vs Q E hr h => ?_)
  · obtain ⟨b, m, rfl, _⟩ := h
    rfl
  · obtain ⟨b, m, rfl, hm, hB, k⟩ := h
    refine ⟨_, pss_cons (ps_set (i := 2) scNames.nd rfl (Or.inr rfl) (pe_lst (pa_cons pe_str (pa_cons pe_str (pa_cons pe_str (pa_cons pe_str (pa_cons pe_str (pa_cons pe_str (pa_cons pe_str (pa_cons pe_str (pa_cons pe_str (pa_cons pe_str (pa_cons pe_str (pa_cons pe_str pa_nil))))))))))))))
      (pss_one (ps_ret (pe_lc (own := [("_law_turn", 3)]) (g := gName 3) (tt := tYes) (te := tBM K "list" rPopAt (tVar 2) (tCons (tCalF (spTake K) (tCons (tVar 0) (tCons (tCB (rLen K) (tCons (tVar 2) tNil)) tNil))) tNil)) rfl scNames.nd (pi_range1 (by rfl) T.range (pa_cons (pv 1) pa_nil))
        (blkOk_by (N := ["_law_bag_here", "_law_many", "_law_left", "_law_turn"]) (sc := defScope sLNames) (by decide +kernel))
        (fun _ _ _ _ _ => pg_name (i := 3) scNames.nd rfl (Or.inl rfl)) (fun _ _ _ _ _ => pts_nil)
        (fun _ _ _ _ _ => pe_bm PySem.F.plainAttrs_list PySem.F.slot_list_pop PySem.F.type_list_pop mt_popAt (pv 2) (pa_cons (pe_cal cT hr (pa_cons (pv 0) (pa_cons (pe_callB (r := rLen K) call_len (by rfl) T.len boot_len (pa_cons (pv 2) pa_nil)) pa_nil))) pa_nil))))), ?_⟩
    refine ⟨by decide, fun L hL => ?_⟩
    have sL := same_new (o := .lst (all12.map V.str)) hL
    have hLb : L ≠ b := hB.ne hL
    refine ⟨_, rfl, (m : Int), rfl, by omega, by omega, fun D hD => ?_⟩
    have hDL : L ≠ D := ne_of_none (upd_same (H := H) (a := L) (o := .lst (all12.map V.str))) hD
    have hDn : H D = none := sL.free hD
    have hDb : D ≠ b := hB.ne hDn
    refine lc_it walk_range (fun i H' => ∃ xs ls : List Str, But b H H' ∧ BagAt H' b ∧ H' L = some (.lst (ls.map V.str)) ∧ H' D = some (.lst (xs.map V.str)) ∧ (xs ++ ls).Perm all12 ∧ xs.length = i) ⟨[], all12, but_over (But.of sL) hDn, ?_, ?_, upd_same, List.Perm.refl _, rfl⟩ (fun _ _ _ _ => trivial) ?_ ?_
    · exact (hB.same sL).same (same_new hD)
    · rw [upd_ne hDL]
      exact upd_same
    · rintro i x H1 H2 hi ⟨xs, ls, p1, p2, p3, p4, p5, p6⟩ ⟨rfl, rfl⟩
      have hl : ls.length + i = 12 := by
        have := p5.length_eq
        rw [List.length_append, p6] at this
        exact (Nat.add_comm _ _).trans this
      have hi2 : i < m := hi
      refine ⟨rfl, _, rfl, .inl ⟨rfl, _, .inl (.inl p3)⟩, _, rfl, _, rfl, _, ls.length, rfl, .inl ⟨_, .inl (.inl p3), by rw [List.length_map]⟩, b, ls.length, rfl, by omega, by omega, p2, fun j H3 hj b3 B3 => ?_⟩
      have q3 := b3 _ _ hLb p3
      have q4 := b3 _ _ hDb p4
      have hy : ls[j]? = some ls[j] := List.getElem?_eq_getElem hj
      refine ⟨L, _, (j : Int), j, .str ls[j], rfl, rfl, q3, by omega, by omega, six_nat (by rw [List.length_map]; exact hj), by rw [List.getElem?_map, hy]; rfl, ?_⟩
      have q5 : upd H3 L (.lst ((ls.map V.str).eraseIdx j)) D = some (.lst (xs.map V.str)) := by rw [upd_ne hDL.symm]; exact q4
      refine ⟨_, q5, small1000 (by rw [List.length_map]; omega), xs ++ [ls[j]], ls.eraseIdx j, but_over (but_over (p1.trans b3) hL) hDn, ?_, ?_, ?_, (perm_pick hy).symm.trans p5, ?_⟩
      · obtain ⟨d, e, c, w1, w2⟩ := B3
        exact ⟨d, e, c, by rw [upd_ne hDb.symm, upd_ne hLb.symm]; exact w1, w2⟩
      · rw [upd_ne hDL, upd_same, map_erase]
      · rw [upd_same, List.map_append]
        rfl
      · rw [List.length_append, p6]
        rfl
    · rintro H' ⟨xs, ls, p1, p2, p3, p4, p5, p6⟩
      have nd : (xs ++ ls).Nodup := p5.symm.nodup all12_nd
      exact k D xs H' p1 p2 hDb p4 p6 (List.Nodup.sublist (List.sublist_append_left _ _) nd) (fun x hx => all12_ok x (p5.subset (List.mem_append_left _ hx)))
end
end K11
set_option Elab.async false
set_option linter.all false
set_option maxRecDepth 100000
set_option maxHeartbeats 4000000
/-! The walks: the law's methods. -/
namespace K11
open PySem PySem.Spec PyProof.Rows L2
section
variable {P : Program} {w : World} {K : PySem.W.Frag} {mg : Str → Option Value} {base : Heap} {C : Addr}
theorem BagAt.neS {H : Hp} {b a : Addr} {xs : List Str} (h : BagAt H b) (e : H a = some (.lst (xs.map V.str))) : a ≠ b := fun z => by
  obtain ⟨d, m, c, h, _⟩ := h
  rw [z, h] at e
  cases xs with
  | nil => cases e
  | cons x xs => cases e
theorem BagAt.neR {H : Hp} {b a : Addr} {xs : List Addr} (h : BagAt H b) (e : H a = some (.lst (xs.map V.ref))) : a ≠ b := fun z => by
  obtain ⟨d, m, c, h, _⟩ := h
  rw [z, h] at e
  cases xs with
  | nil => cases e
  | cons x xs => cases e
theorem BagAt.over {H : Hp} {b a : Addr} {o : HO} (h : BagAt H b) (n : a ≠ b) : BagAt (upd H a o) b := by
  obtain ⟨d, e, c, w1, w2⟩ := h
  exact ⟨d, e, c, by rw [upd_ne n.symm]; exact w1, w2⟩
/-- a list of references is not the bag -/
theorem BagAt.neD {H : Hp} {b a : Addr} {xs : List V} {ds : List D} (h : BagAt H b) (e : H a = some (.lst xs)) (d : DpAll K H xs ds) (n : ∀ x ∈ ds, ∃ ys, x = PyData.tuple ys) : a ≠ b := fun z => by
  obtain ⟨d', m, c, h, _⟩ := h
  rw [z, h] at e
  cases e
  cases d with
  | cons d1 d2 =>
    obtain ⟨ys, e⟩ := n _ List.mem_cons_self
    rw [e] at d1
    cases d1
theorem size1000 {n : Nat} (h : n ≤ 1000) : n ≤ sizeLine := Nat.le_trans h (by decide)
def spLMeth (K : PySem.W.Frag) : Sp := fun vs H Q _ => ∃ (b a : Addr) (ns : List Str) (z : Str), vs = [.ref b, .ref a, .str z] ∧ BagAt H b ∧ H a = some (.lst (ns.map V.str)) ∧ ns ≠ [] ∧ ns.length ≤ 7 ∧
  ∀ v (mt : Mth) H', But b H H' → BagAt H' b → Dp K H' v (dMeth mt) → mt.side = z → MethOk ns mt → Q v H'
theorem scLMeth : FnScope ["_law_bag_here", "_law_names_here", "_law_side", "_law_cases", "_law_turn", "_law_results"] ["_law_bag_here", "_law_names_here", "_law_side"] (defScope sLMethod) := ⟨rfl, rfl, rfl, by decide +kernel, rfl, by decide +kernel, by decide +kernel⟩
theorem six_of {k : Nat} (h : k < 6) : ∃ n : Nat, n ≤ 6 ∧ atI [V.int 1, V.int 2, V.int 3, V.int 0, V.int 1, V.int 6] (k : Int) = some (.int (n : Nat)) := by
  match k, h with
  | 0, _ => exact ⟨1, by omega, rfl⟩
  | 1, _ => exact ⟨2, by omega, rfl⟩
  | 2, _ => exact ⟨3, by omega, rfl⟩
  | 3, _ => exact ⟨0, by omega, rfl⟩
  | 4, _ => exact ⟨1, by omega, rfl⟩
  | 5, _ => exact ⟨6, by omega, rfl⟩
theorem ok_lmeth (T : Txt K mg) (F : FunAt K mg "_law_method" sLMethod) (cT : Cal P w K mg base "_law_take" 1 ["_law_bag_here", "_law_many"] (spTake K)) : Cal P w K mg base "_law_method" 2 ["_law_bag_here", "_law_names_here", "_law_side"] (spLMeth K) := by
  refine cal_of F scLMeth (fun vs H Q E h => ?_) (fun _ _ _ _ _ _ us hl => match us, hl with | [_, _, _], _ => rfl) (fun f cdv A outer s H vs Q E hr h => ?_)
  · obtain ⟨b, a, ns, z, rfl, _⟩ := h
    rfl
  · obtain ⟨b, a, ns, z, rfl, hB, ha, hne, hle, k⟩ := h
    have hpos : 0 < ns.length := List.length_pos_iff.mpr hne
    refine ⟨_, pss_cons (ps_set (i := 3) scLMeth.nd rfl (Or.inl rfl) (pe_lst pa_nil))
      (pss_cons (ps_for PassesOwn.never rfl (pi_range1 (by rfl) T.range (pa_cons (pe_ix ix_list (pe_lst (pa_cons pe_int (pa_cons pe_int (pa_cons pe_int (pa_cons pe_int (pa_cons pe_int (pa_cons pe_int pa_nil))))))) (pe_cal cT hr (pa_cons (pv 0) (pa_cons pe_int pa_nil))) (fun _ _ => rfl)) pa_nil))
          (pg_name (i := 4) scLMeth.nd rfl (Or.inl rfl))
        (pss_cons (ps_set (i := 5) scLMeth.nd rfl (Or.inl rfl) (pe_op op_cat (pv 1) (pe_lst (pa_cons pe_str (pa_cons pe_str (pa_cons pe_str pa_nil))))))
        (pss_one (ps_expr (pe_bm PySem.F.plainAttrs_list PySem.F.slot_list_append PySem.F.type_list_append mt_append (pv 3) (pa_cons (pe_tup (pa_cons
            (pe_ix ix_list (pv 1) (pe_cal cT hr (pa_cons (pv 0) (pa_cons (pe_callB call_len (by rfl) T.len boot_len (pa_cons (pv 1) pa_nil)) pa_nil))) (fun _ _ => rfl)) (pa_cons
            (pe_ix ix_list (pv 5) (pe_cal cT hr (pa_cons (pv 0) (pa_cons (pe_callB call_len (by rfl) T.len boot_len (pa_cons (pv 5) pa_nil)) pa_nil))) (fun _ _ => rfl)) pa_nil))) pa_nil))))))
      (pss_one (ps_ret (pe_tup (pa_cons (pv 2) (pa_cons (pe_tupleOf (by rfl) T.tuple (pv 3)) (pa_cons (pe_ix ix_list (pe_lst (pa_cons pe_str (pa_cons pe_str pa_nil))) (pe_cal cT hr (pa_cons (pv 0) (pa_cons pe_int pa_nil))) (fun _ _ => rfl)) pa_nil))))))), ?_⟩
    refine ⟨Nat.zero_le _, fun c hc => ?_⟩
    have sc := same_new (o := .lst []) hc
    have hcb : c ≠ b := hB.ne hc
    have hab : a ≠ b := hB.neS ha
    have hac : a ≠ c := ne_of_none ha hc
    refine ⟨by decide, fun t ht => ?_⟩
    have st := same_new (o := .lst [V.int 1, V.int 2, V.int 3, V.int 0, V.int 1, V.int 6]) ht
    have htb : t ≠ b := hB.ne (sc.free ht)
    have htc : t ≠ c := fun z => by rw [z, upd_same] at ht; cases ht
    refine ⟨_, rfl, b, 6, rfl, by omega, by omega, (hB.same sc).same st, fun i H1 hi b1 B1 => ?_⟩
    obtain ⟨n, hn, en⟩ := six_of hi
    refine ⟨t, _, _, _, rfl, rfl, .inl (.inl (b1 _ _ htb upd_same)), en, _, rfl, by omega, by omega, ?_⟩
    have bH1 : But b H H1 := (But.of (sc.trans st)).trans b1
    refine for_it walk_range (fun j σ H' => ∃ (cs : List (Str × Str)) (vs : List V) (r4 r5 : Option V), σ = [some (.ref b), some (.ref a), some (.str z), some (.ref c), r4, r5] ∧ But b H H' ∧ BagAt H' b ∧ H' c = some (.lst vs) ∧ DpAll K H' vs (cs.map dCase) ∧ cs.length = j ∧ ∀ y ∈ cs, y.1 ∈ ns ∧ (y.2 ∈ ns ∨ y.2 = sSelf ∨ y.2 = sOther))
      ⟨[], [], _, _, rfl, bH1, B1, b1 _ _ hcb (st _ _ upd_same), .nil, rfl, fun y hy => by cases hy⟩ (fun _ _ _ _ _ => trivial) ?_ ?_
    · rintro j x σ H2 H3 hj ⟨cs, vs, r4, r5, rfl, b2, B2, hc2, hd2, hl2, hok⟩ ⟨rfl, rfl⟩
      have hj6 : j < n := hj
      have ha2 := b2 _ _ hab ha
      refine ⟨_, rfl, three_le, fun q hq => ?_⟩
      have sq := same_new (o := .lst [V.str "self", V.str "other", V.str "self"]) hq
      refine ⟨a, q, _, _, rfl, rfl, sq _ _ ha2, upd_same, size1000 (by simp; omega), fun r hr => ?_⟩
      have eR : ns.map V.str ++ [V.str "self", V.str "other", V.str "self"] = (ns ++ [sSelf, sOther, sSelf]).map V.str := by rw [List.map_append]; rfl
      rw [eR]
      have sr := same_new (o := .lst ((ns ++ [sSelf, sOther, sSelf]).map V.str)) hr
      have s4 := sq.trans sr
      have hr4 : upd (upd H3 q (.lst [V.str "self", V.str "other", V.str "self"])) r (.lst ((ns ++ [sSelf, sOther, sSelf]).map V.str)) r = some (.lst ((ns ++ [sSelf, sOther, sSelf]).map V.str)) := upd_same
      have hrn : H3 r = none := sq.free hr
      generalize upd (upd H3 q (.lst [V.str "self", V.str "other", V.str "self"])) r (.lst ((ns ++ [sSelf, sOther, sSelf]).map V.str)) = H4 at s4 hr4 ⊢
      have hrb : r ≠ b := B2.ne hrn
      have hrc : r ≠ c := (ne_of_none hc2 hrn).symm
      refine ⟨_, rfl, .inl ⟨rfl, _, .inl (.inl (s4 _ _ hc2))⟩, _, rfl, _, rfl, _, rfl, _, ns.length, rfl, .inl ⟨_, .inl (.inl (s4 _ _ ha2)), by rw [List.length_map]⟩, b, ns.length, rfl, hpos, by omega, B2.same s4, fun i1 H5 hi1 b5 B5 => ?_⟩
      have ha5 := b5 _ _ hab (s4 _ _ ha2)
      have hr5 := b5 _ _ hrb hr4
      have hc5 := b5 _ _ hcb (s4 _ _ hc2)
      have hd5 := DpAll.but (BagAt.noT (B2.same s4)) b5 (noLs_map noL_case _) (DpAll.same s4 hd2)
      refine ⟨a, _, _, .str ns[i1], rfl, rfl, .inl (.inl ha5), atI_nat (by rw [List.getElem?_map, List.getElem?_eq_getElem hi1]; rfl), _, rfl, _, rfl, _, rfl, _, (ns ++ [sSelf, sOther, sSelf]).length, rfl, .inl ⟨_, .inl (.inl hr5), by rw [List.length_map]⟩, b, (ns ++ [sSelf, sOther, sSelf]).length, rfl, by simp, by simp; omega, B5, fun i2 H6 hi2 b6 B6 => ?_⟩
      have hr6 := b6 _ _ hrb hr5
      have hc6 := b6 _ _ hcb hc5
      have hd6 := DpAll.but (BagAt.noT B5) b6 (noLs_map noL_case _) hd5
      refine ⟨r, _, _, .str (ns ++ [sSelf, sOther, sSelf])[i2], rfl, rfl, .inl (.inl hr6), atI_nat (by rw [List.getElem?_map, List.getElem?_eq_getElem hi2]; rfl), two_le, fun p hp => ?_⟩
      have sp := same_new (o := .tup [V.str ns[i1], V.str (ns ++ [sSelf, sOther, sSelf])[i2]]) hp
      have hvl : vs.length = cs.length := DpAll.map_len hd2
      have b7 := (((b2.trans (But.of s4)).trans b5).trans b6).trans (But.of sp)
      refine ⟨c, _, _, rfl, rfl, sp _ _ hc6, small1000 (by omega), cs ++ [(ns[i1], (ns ++ [sSelf, sOther, sSelf])[i2])], _, _, _, rfl, but_over b7 hc, (B6.same sp).over hcb, upd_same, ?_, ?_, ?_⟩
      · have nt := NoT.lst (sp _ _ hc6)
        have bb := but_self (o := .lst (vs ++ [V.ref p])) (But.refl c (upd H6 p (.tup [V.str ns[i1], V.str (ns ++ [sSelf, sOther, sSelf])[i2]])))
        rw [List.map_append]
        exact DpAll.append (DpAll.but nt bb (noLs_map noL_case _) (DpAll.same sp hd6)) (DpAll.one (Dp.but nt bb (noL_case _) (.tup (.inl (.inl upd_same)) (.cons (.str _) (.cons (.str _) .nil)))))
      · rw [List.length_append, hl2]
        rfl
      · intro y hy
        rcases List.mem_append.mp hy with hy | hy
        · exact hok y hy
        · rw [List.mem_singleton.mp hy]
          refine ⟨List.getElem_mem hi1, ?_⟩
          rcases List.mem_append.mp (List.getElem_mem hi2) with h | h
          · exact .inl h
          · rcases List.mem_cons.mp h with h | h
            · exact .inr (.inl h)
            · rcases List.mem_cons.mp h with h | h
              · exact .inr (.inr h)
              · exact .inr (.inl (List.mem_singleton.mp h))
    · rintro σ H2 ⟨cs, vs, r4, r5, rfl, b2, B2, hc2, hd2, hl2, hok⟩
      refine ⟨_, rfl, _, rfl, .inl ⟨c, vs, rfl, .inl (.inl hc2), fun q hq => ?_⟩⟩
      have sq := same_new (o := .tup vs) hq
      have hq4 : upd H2 q (.tup vs) q = some (.tup vs) := upd_same
      have hd4 := DpAll.same sq hd2
      have B4 := B2.same sq
      have b4 := b2.trans (But.of (b := b) sq)
      have hqb : q ≠ b := B2.ne hq
      generalize upd H2 q (.tup vs) = H4 at hq4 hd4 B4 b4 ⊢
      refine ⟨two_le, fun e he => ?_⟩
      have se := same_new (o := .lst [V.str "decline", V.str "super"]) he
      have heb : e ≠ b := B4.ne he
      refine ⟨_, rfl, b, 2, rfl, by omega, by omega, B4.same se, fun i H6 hi b6 B6 => ?_⟩
      have he6 : H6 e = some (.lst ([sDec, sSuper].map V.str)) := b6 _ _ heb upd_same
      have hi2 : i < [sDec, sSuper].length := hi
      refine ⟨e, _, _, .str [sDec, sSuper][i], rfl, rfl, .inl (.inl he6), atI_nat (by rw [List.getElem?_map, List.getElem?_eq_getElem hi2]; rfl), three_le, fun p hp => ?_⟩
      have sp := same_new (o := .tup [V.str z, V.ref q, V.str [sDec, sSuper][i]]) hp
      have hd6 := DpAll.but (BagAt.noT (B4.same se)) b6 (noLs_map noL_case _) (DpAll.same se hd4)
      have hq6 := b6 _ _ hqb (se _ _ hq4)
      refine k _ ⟨z, cs, [sDec, sSuper][i]⟩ _ (((b4.trans (But.of se)).trans b6).trans (But.of sp)) (B6.same sp) (.tup (.inl (.inl upd_same)) (.cons (.str _) (.cons (.tup (.inl (.inl (sp _ _ hq6))) (DpAll.same sp hd6)) (.cons (.str _) .nil)))) rfl ⟨?_, fun y hy => (hok y hy).1, fun y hy => (hok y hy).2, ?_⟩
      · have hl3 : cs.length = n := hl2
        show cs.length ≤ 6
        omega
      · rcases List.mem_cons.mp (List.getElem_mem hi2) with h | h
        · exact .inl h
        · exact .inr (List.mem_singleton.mp h)
end
end K11
set_option Elab.async false
set_option linter.all false
set_option maxRecDepth 100000
set_option maxHeartbeats 4000000
/-! The walks: the law's entries. -/
namespace K11
open PySem PySem.Spec PyProof.Rows L2
section
variable {P : Program} {w : World} {K : PySem.W.Frag} {mg : Str → Option Value} {base : Heap} {C : Addr}
def dSO (p : Str × Nat) : D := .tuple [.str p.1, .int (p.2 : Nat)]
theorem noL_so (p : Str × Nat) : noL (dSO p) = true := by simp [dSO, noL, noLs]
def often : List (Str × Nat) := [(sFwd, 2), (sRef, 2), (sInp, 4)]
theorem so_of {H : Hp} {v : V} {x : Str × Nat} (h : Dp K H v (dSO x)) : ∃ a, v = .ref a ∧ SqT K H a [.str x.1, .int (x.2 : Nat)] := by
  obtain ⟨a, xs, rfl, h1, h2⟩ := Dp.tup_of h
  cases h2 with
  | cons a1 h2 => cases h2 with
    | cons a2 h2 =>
      cases h2
      cases a1
      cases a2
      exact ⟨a, rfl, h1⟩
def spLMeths (K : PySem.W.Frag) : Sp := fun vs H Q _ => ∃ (b a : Addr) (ns : List Str), vs = [.ref b, .ref a] ∧ BagAt H b ∧ H a = some (.lst (ns.map V.str)) ∧ ns ≠ [] ∧ ns.length ≤ 7 ∧
  ∀ v (ms : List Mth) H', But b H H' → BagAt H' b → Dp K H' v (.tuple (ms.map dMeth)) → SidesOk ms → (∀ m ∈ ms, MethOk ns m) → Q v H'
theorem scLMeths : FnScope ["_law_bag_here", "_law_names_here", "_law_found", "_law_side", "_law_often"] ["_law_bag_here", "_law_names_here"] (defScope sLMethods) := ⟨rfl, rfl, rfl, by decide +kernel, rfl, by decide +kernel, by decide +kernel⟩
theorem ok_lmeths (T : Txt K mg) (F : FunAt K mg "_law_methods" sLMethods) (cT : Cal P w K mg base "_law_take" 1 ["_law_bag_here", "_law_many"] (spTake K)) (cM : Cal P w K mg base "_law_method" 2 ["_law_bag_here", "_law_names_here", "_law_side"] (spLMeth K)) :
    Cal P w K mg base "_law_methods" 3 ["_law_bag_here", "_law_names_here"] (spLMeths K) := by
  refine cal_of F scLMeths (fun vs H Q E h => ?_) (fun _ _ _ _ _ _ us hl => match us, hl with | [_, _], _ => rfl) (fun f cdv A outer s H vs Q E hr h => ?_)
  · obtain ⟨b, a, ns, rfl, _⟩ := h
    rfl
  · obtain ⟨b, a, ns, rfl, hB, ha, hne, hle, k⟩ := h
    have hr1 : Room 1 _ := hr.mono (by decide)
    refine ⟨_, pss_cons (ps_set (i := 2) scLMeths.nd rfl (Or.inl rfl) (pe_lst pa_nil))
      (pss_cons (ps_for PassesOwn.never rfl (pi_list (pe_lst (pa_cons (pe_tup (pa_cons pe_str (pa_cons pe_int pa_nil))) (pa_cons (pe_tup (pa_cons pe_str (pa_cons pe_int pa_nil))) (pa_cons (pe_tup (pa_cons pe_str (pa_cons pe_int pa_nil))) pa_nil)))))
          (pg_tup rfl (pgs_cons (pg_name (i := 3) scLMeths.nd rfl (Or.inl rfl)) (pgs_cons (pg_name (i := 4) scLMeths.nd rfl (Or.inl rfl)) pgs_nil)))
        (pss_one (ps_if (pt_cmpR op_eq (pe_cal cT hr1 (pa_cons (pv 0) (pa_cons (pv 4) pa_nil))) pe_int (nomark _))
          (pss_one (ps_expr (pe_bm PySem.F.plainAttrs_list PySem.F.slot_list_append PySem.F.type_list_append mt_append (pv 2) (pa_cons (pe_cal cM hr (pa_cons (pv 0) (pa_cons (pv 1) (pa_cons (pv 3) pa_nil)))) pa_nil)))) pss_nil)))
      (pss_one (ps_ret (pe_tupleOf (by rfl) T.tuple (pv 2))))), ?_⟩
    refine ⟨Nat.zero_le _, fun c hc => ?_⟩
    have sc := same_new (o := .lst []) hc
    have hcb : c ≠ b := hB.ne hc
    have hab : a ≠ b := hB.neS ha
    have hac : a ≠ c := ne_of_none ha hc
    have hc1 : upd H c (.lst []) c = some (.lst []) := upd_same
    have hB1 := hB.same sc
    generalize upd H c (.lst []) = H1 at sc hc1 hB1 ⊢
    refine ⟨two_le, fun t1 h1 => ⟨two_le, fun t2 h2 => ⟨two_le, fun t3 h3 => ⟨three_le, fun l hl => ?_⟩⟩⟩⟩
    have u1 := same_new (o := .tup [V.str "forward", V.int 2]) h1
    have u2 := same_new (o := .tup [V.str "reflected", V.int 2]) h2
    have u3 := same_new (o := .tup [V.str "inplace", V.int 4]) h3
    have u4 := same_new (o := .lst [V.ref t1, V.ref t2, V.ref t3]) hl
    have x1 := (u2.trans (u3.trans u4)) _ _ (upd_same (H := H1) (a := t1) (o := .tup [V.str "forward", V.int 2]))
    have x2 := (u3.trans u4) _ _ (upd_same (H := upd H1 t1 (.tup [V.str "forward", V.int 2])) (a := t2) (o := .tup [V.str "reflected", V.int 2]))
    have x3 := u4 _ _ (upd_same (H := upd (upd H1 t1 (.tup [V.str "forward", V.int 2])) t2 (.tup [V.str "reflected", V.int 2])) (a := t3) (o := .tup [V.str "inplace", V.int 4]))
    have u0 := u1.trans (u2.trans (u3.trans u4))
    have hl1 : H1 l = none := (u1.trans (u2.trans u3)).free hl
    have hlc : l ≠ c := (ne_of_none hc1 hl1).symm
    have hlb : l ≠ b := hB1.ne hl1
    have hl2 := upd_same (H := upd (upd (upd H1 t1 (.tup [V.str "forward", V.int 2])) t2 (.tup [V.str "reflected", V.int 2])) t3 (.tup [V.str "inplace", V.int 4])) (a := l) (o := .lst [V.ref t1, V.ref t2, V.ref t3])
    generalize upd (upd (upd (upd H1 t1 (.tup [V.str "forward", V.int 2])) t2 (.tup [V.str "reflected", V.int 2])) t3 (.tup [V.str "inplace", V.int 4])) l (.lst [V.ref t1, V.ref t2, V.ref t3]) = H2 at x1 x2 x3 u0 hl2 ⊢
    have hL2 : DpAll K H2 [V.ref t1, V.ref t2, V.ref t3] (often.map dSO) := .cons (.tup (.inl (.inl x1)) (.cons (.str _) (.cons (.int _) .nil))) (.cons (.tup (.inl (.inl x2)) (.cons (.str _) (.cons (.int _) .nil))) (.cons (.tup (.inl (.inl x3)) (.cons (.str _) (.cons (.int _) .nil))) .nil))
    have s2 := sc.trans u0
    refine ⟨l, rfl, ⟨_, .inl (.inl hl2)⟩, for_it walk_list (fun j σ H' => ∃ (ms : List Mth) (vs : List V) (r3 r4 : Option V), σ = [some (.ref b), some (.ref a), some (.ref c), r3, r4] ∧ But b H H' ∧ BagAt H' b ∧ H' c = some (.lst vs) ∧ DpAll K H' vs (ms.map dMeth) ∧ H' l = some (.lst [V.ref t1, V.ref t2, V.ref t3]) ∧
        DpAll K H' [V.ref t1, V.ref t2, V.ref t3] (often.map dSO) ∧ (ms.map (·.side)).Sublist (sides.take j) ∧ ∀ m ∈ ms, MethOk ns m)
      ⟨[], [], _, _, rfl, But.of s2, hB1.same u0, u0 _ _ hc1, .nil, hl2, hL2, List.Sublist.refl _, fun m hm => by cases hm⟩ (fun j σ H' _ ⟨_, _, _, _, _, _, _, _, _, h, _⟩ => .inl (.inl h)) ?_ ?_⟩
    · rintro j x σ H3 H4 hj ⟨ms, vs, r3, r4, rfl, b3, B3, hc3, hd3, hl3, hL3, hs3, hm3⟩ ⟨rfl, hx⟩
      obtain ⟨⟨z, o⟩, ho, hd⟩ := DpAll.map_get hL3 hx
      obtain ⟨t, rfl, ht⟩ := so_of hd
      have hin : (z, o) ∈ often := List.mem_of_getElem? ho
      have ho2 : 0 < o ∧ o < 1000 := by
        rcases List.mem_cons.mp hin with e | e
        · cases e; decide
        · rcases List.mem_cons.mp e with e | e
          · cases e; decide
          · cases List.mem_singleton.mp e; decide
      have hz : sides[j]? = some z := by
        have : sides = often.map (·.1) := rfl
        rw [this, List.getElem?_map, ho]
        rfl
      refine ⟨t, _, rfl, ht, rfl, _, _, rfl, _, _, rfl, rfl, ?_⟩
      refine ⟨_, rfl, _, rfl, b, o, rfl, ho2.1, ho2.2, B3, fun i H5 hi b5 B5 => ?_⟩
      have ha5 := (b3.trans b5) _ _ hab ha
      have hc5 := b5 _ _ hcb hc3
      have hl5 := b5 _ _ hlb hl3
      have hd5 := DpAll.but B3.noT b5 (noLs_map noL_meth _) hd3
      have hL5 := DpAll.but B3.noT b5 (noLs_map noL_so _) hL3
      have b35 := b3.trans b5
      refine ⟨rfl, _, rfl, ite2 (fun _ => ?_) (fun _ => ?_)⟩
      · refine ⟨_, rfl, .inl ⟨rfl, _, .inl (.inl hc5)⟩, _, rfl, _, rfl, _, rfl, b, a, ns, z, rfl, B5, ha5, hne, hle, fun v mt H6 b6 B6 hmt hside hok => ?_⟩
        have hc6 := b6 _ _ hcb hc5
        have hl6 := b6 _ _ hlb hl5
        have hd6 := DpAll.but B5.noT b6 (noLs_map noL_meth _) hd5
        have hL6 := DpAll.but B5.noT b6 (noLs_map noL_so _) hL5
        have hvl : vs.length = ms.length := DpAll.map_len hd3
        have hml : ms.length ≤ 3 := by
          have e1 := hs3.length_le
          have e2 : (sides.take j).length ≤ 3 := by rw [List.length_take]; exact Nat.min_le_right _ _
          rw [List.length_map] at e1
          omega
        have nt := NoT.lst hc6
        have bb := but_self (o := .lst (vs ++ [v])) (But.refl c H6)
        refine ⟨c, _, _, rfl, rfl, hc6, small1000 (by omega), ms ++ [mt], _, _, _, rfl, but_over (b35.trans b6) hc, B6.over hcb, upd_same, ?_, ?_, DpAll.but nt bb (noLs_map noL_so _) hL6, ?_, ?_⟩
        · rw [List.map_append]
          exact DpAll.append (DpAll.but nt bb (noLs_map noL_meth _) hd6) (DpAll.one (Dp.but nt bb (noL_meth _) hmt))
        · rw [upd_ne hlc]
          exact hl6
        · rw [List.map_append, take_next hz]
          show List.Sublist (ms.map (·.side) ++ [mt.side]) _
          rw [hside]
          exact List.Sublist.append hs3 (List.Sublist.refl _)
        · intro m hm
          rcases List.mem_append.mp hm with hm | hm
          · exact hm3 m hm
          · rw [List.mem_singleton.mp hm]
            exact hok
      · refine ⟨ms, vs, _, _, rfl, b35, B5, hc5, hd5, hl5, hL5, ?_, hm3⟩
        rw [take_next hz]
        exact hs3.trans (List.sublist_append_left _ _)
    · rintro σ H3 ⟨ms, vs, r3, r4, rfl, b3, B3, hc3, hd3, hl3, hL3, hs3, hm3⟩
      refine ⟨_, rfl, .inl ⟨c, vs, rfl, .inl (.inl hc3), fun q hq => ?_⟩⟩
      have sq := same_new (o := .tup vs) hq
      exact k _ ms _ (b3.trans (But.of sq)) (B3.same sq) (.tup (.inl (.inl upd_same)) (DpAll.same sq hd3)) hs3 hm3
end
end K11
set_option Elab.async false
set_option linter.all false
set_option maxRecDepth 100000
set_option maxHeartbeats 4000000
/-! The walks: the law's entries. -/
namespace K11
open PySem PySem.Spec PyProof.Rows L2
theorem BF.snoc : ∀ {es : List Ent} {known : List Str} {e : Ent}, BF known es → (∀ b, e.base = some b → b ∈ known ++ names es) → BF known (es ++ [e])
  | [], known, e, _, h => ⟨fun b hb => by simpa [names] using h b hb, trivial⟩
  | x :: es, known, e, hb, h => ⟨hb.1, BF.snoc hb.2 fun b q => by
      have := h b q
      rw [List.append_assoc]
      exact this⟩
section
variable {P : Program} {w : World} {K : PySem.W.Frag} {mg : Str → Option Value} {base : Heap} {C : Addr}
theorem cut_to {xs : List V} {k : Nat} (h : k ≤ xs.length) : cutV xs none (some (k : Int)) = xs.take k := by
  unfold cutV
  rw [HT.sIx_nat, HT.sIx_none, Nat.min_eq_left h]
  rfl
def spLEnts (K : PySem.W.Frag) : Sp := fun vs H Q _ => ∃ (b : Addr), vs = [.ref b, .int 7] ∧ BagAt H b ∧
  ∀ r (es : List Ent) H', But b H H' → BagAt H' b → RowsAt K H' r es → WF es → r ≠ b → H r = none → Q (.ref r) H'
theorem scLEnts : FnScope ["_law_bag_here", "_law_most", "_law_names_here", "_law_found", "_law_at", "_law_bases"] ["_law_bag_here", "_law_most"] (defScope sLEntries) := ⟨rfl, rfl, rfl, by decide +kernel, rfl, by decide +kernel, by decide +kernel⟩
theorem ok_lents (T : Txt K mg) (F : FunAt K mg "_law_entries" sLEntries) (cT : Cal P w K mg base "_law_take" 1 ["_law_bag_here", "_law_many"] (spTake K)) (cN : Cal P w K mg base "_law_names" 2 ["_law_bag_here", "_law_many"] (spNames K))
    (cM : Cal P w K mg base "_law_methods" 3 ["_law_bag_here", "_law_names_here"] (spLMeths K)) :
    Cal P w K mg base "_law_entries" 4 ["_law_bag_here", "_law_most"] (spLEnts K) := by
  refine cal_of F scLEnts (fun vs H Q E h => ?_) (fun _ _ _ _ _ _ us hl => match us, hl with | [_, _], _ => rfl) (fun f cdv A outer s H vs Q E hr h => ?_)
  · obtain ⟨b, rfl, _⟩ := h
    rfl
  · obtain ⟨b, rfl, hB, k⟩ := h
    have hr1 : Room 1 _ := hr.mono (by decide)
    have hr2 : Room 2 _ := hr.mono (by decide)
    refine ⟨_, pss_cons (ps_par (i := 2) (j := 3) (by rfl) scLEnts.nd rfl rfl (by decide) rfl rfl (pa_cons (pe_cal cN hr2 (pa_cons (pv 0) (pa_cons (pe_op op_add pe_int (pe_cal cT hr1 (pa_cons (pv 0) (pa_cons (pv 1) pa_nil)))) pa_nil))) (pa_cons (pe_lst pa_nil) pa_nil)) (by rfl))
      (pss_cons (ps_for PassesOwn.never rfl (pi_range1 (by rfl) T.range (pa_cons (pe_callB call_len (by rfl) T.len boot_len (pa_cons (pv 2) pa_nil)) pa_nil))
          (pg_name (i := 4) scLEnts.nd rfl (Or.inl rfl))
        (pss_cons (ps_set (i := 5) scLEnts.nd rfl (Or.inl rfl) (pe_op op_cat (pe_slice sl_list (pv 2) po_none (po_some (pv 4))) (pe_lst (pa_cons pe_non (pa_cons
            (pe_ix ix_list (pe_orT (pe_slice sl_list (pv 2) po_none (po_some (pv 4))) (pe_one (pe_lst (pa_cons pe_non pa_nil)))) (pe_un un_neg pe_int) (fun _ _ => rfl)) pa_nil)))))
        (pss_one (ps_expr (pe_bm PySem.F.plainAttrs_list PySem.F.slot_list_append PySem.F.type_list_append mt_append (pv 3) (pa_cons (pe_tup (pa_cons
            (pe_ix ix_list (pv 2) (pv 4) (fun _ _ => rfl)) (pa_cons
            (pe_ix ix_list (pv 5) (pe_cal cT hr1 (pa_cons (pv 0) (pa_cons (pe_callB call_len (by rfl) T.len boot_len (pa_cons (pv 5) pa_nil)) pa_nil))) (fun _ _ => rfl)) (pa_cons
            (pe_cal cM hr (pa_cons (pv 0) (pa_cons (pv 2) pa_nil))) pa_nil)))) pa_nil))))))
      (pss_one (ps_ret (pv 3)))), ?_⟩
    refine ⟨_, rfl, _, rfl, _, rfl, b, 7, rfl, by omega, by omega, hB, fun i H1 hi b1 B1 => ⟨_, _, rfl, rfl, b, 1 + i, ?_, by omega, B1, fun a ns H2 b2 B2 hab ha hlen hnd hok => ?_⟩⟩
    · exact congrArg (fun t : Int => [V.ref b, V.int t]) (show (1 : Int) + (i : Nat) = ((1 + i : Nat) : Int) by omega)
    have b02 := b1.trans b2
    refine ⟨Nat.zero_le _, fun c hc => ⟨_, _, rfl, ?_⟩⟩
    have sc := same_new (o := .lst []) hc
    have hcb : c ≠ b := B2.ne hc
    have hcn : H c = none := b02.free hcb hc
    have hac : a ≠ c := ne_of_none ha hc
    have hpos : 0 < ns.length := by omega
    have hle : ns.length ≤ 7 := by omega
    have hne : ns ≠ [] := List.length_pos_iff.mp hpos
    refine ⟨_, rfl, _, ns.length, rfl, .inl ⟨_, .inl (.inl (sc _ _ ha)), by rw [List.length_map]⟩, _, rfl, by omega, by omega, ?_⟩
    refine for_it walk_range (fun j σ H' => ∃ (es : List Ent) (vs : List V) (r4 r5 : Option V), σ = [some (.ref b), some (.int 7), some (.ref a), some (.ref c), r4, r5] ∧ But b H H' ∧ BagAt H' b ∧ H' a = some (.lst (ns.map V.str)) ∧ H' c = some (.lst vs) ∧ DpAll K H' vs (es.map dEnt) ∧ names es = ns.take j ∧ BF [] es ∧
        (∀ e ∈ es, SidesOk e.meths) ∧ ∀ e ∈ es, ∀ m ∈ e.meths, MethOk ns m)
      ⟨[], [], _, _, rfl, b02.trans (But.of sc), B2.same sc, sc _ _ ha, upd_same, .nil, rfl, trivial, (fun e he => by cases he), (fun e he => by cases he)⟩ (fun _ _ _ _ _ => trivial) ?_ ?_
    · rintro j x σ H3 H4 hj ⟨es, vs, r4, r5, rfl, b3, B3, ha3, hc3, hd3, en, bf, sd, ms⟩ ⟨rfl, rfl⟩
      have hj2 : j < ns.length := hj
      have esl : es.length = j := by
        have := congrArg List.length en
        rw [names, List.length_map, List.length_take, Nat.min_eq_left (Nat.le_of_lt hj2)] at this
        exact this
      have hcut : cutV (ns.map V.str) none (some ((0 : Int) + (j : Nat))) = (ns.take j).map V.str := by
        rw [show (0 : Int) + (j : Nat) = (j : Int) from Int.zero_add _, cut_to (by rw [List.length_map]; omega), List.map_take]
      have last : ∀ (Hx : Hp) (G : VK), Same H4 Hx → (∀ (o : Option Str) H', Same Hx H' → (∀ x, o = some x → x ∈ ns.take j) → G (vOpt o) H') →
          tOp (rIxL K) (tOrT K (tSl (rSlL K) (tVar 2) tNoPart (tPart (tVar 4))) (tLst (tCons (tC .non) tNil))) (tUn (rU fun i => .int (-i)) (tC (.int 1))) [some (.ref b), some (.int 7), some (.ref a), some (.ref c), some (.int (0 + (j : Nat))), r5] Hx G := fun Hx G sx hG => by
        refine ⟨_, rfl, _, rfl, _, rfl, a, _, rfl, .inl (.inl (sx _ _ ha3)), fun p2 hp2 => ?_⟩
        rw [hcut]
        have s2 := same_new (o := .lst ((ns.take j).map V.str)) hp2
        cases j with
        | zero =>
          refine ⟨false, .inl ⟨_, .inl (.inl upd_same), rfl⟩, iteF ⟨by decide, fun p3 hp3 => ⟨_, rfl, p3, _, _, .non, rfl, rfl, .inl (.inl upd_same), atI_last [] V.non, hG none _ (s2.trans (same_new hp3)) (fun x hx => by cases hx)⟩⟩⟩
        | succ j' =>
          have hy : ns[j']? = some ns[j'] := List.getElem?_eq_getElem (by omega)
          have et : (ns.take (j' + 1)).map V.str = (ns.take j').map V.str ++ [V.str ns[j']] := by rw [take_next hy, List.map_append]; rfl
          refine ⟨true, .inl ⟨_, .inl (.inl upd_same), ?_⟩, iteT ⟨_, rfl, p2, _, _, .str ns[j'], rfl, rfl, .inl (.inl upd_same), ?_, hG (some ns[j']) _ s2 (fun x hx => ?_)⟩⟩
          · rw [et]
            simp
          · rw [et]
            exact atI_last _ _
          · cases hx
            rw [take_next hy]
            exact List.mem_append_right _ List.mem_cons_self
      refine ⟨_, rfl, _, rfl, _, rfl, a, _, rfl, .inl (.inl ha3), fun p1 hp1 => ?_⟩
      rw [hcut]
      have s1 := same_new (o := .lst ((ns.take j).map V.str)) hp1
      have hp1s : upd H4 p1 (.lst ((ns.take j).map V.str)) p1 = some (.lst ((ns.take j).map V.str)) := upd_same
      generalize upd H4 p1 (.lst ((ns.take j).map V.str)) = H5 at s1 hp1s ⊢
      refine last H5 _ s1 fun o H6 s6 ho => ⟨two_le, fun p4 hp4 => ?_⟩
      have s7 := same_new (o := .lst [V.non, vOpt o]) hp4
      have eO : (ns.take j).map V.str ++ [V.non, vOpt o] = ((ns.take j).map some ++ [none, o]).map vOpt := by
        rw [List.map_append, List.map_map]
        rfl
      have hlt : (ns.take j).length ≤ 7 := by
        rw [List.length_take]
        omega
      refine ⟨p1, p4, _, _, rfl, rfl, s7 _ _ (s6 _ _ hp1s), upd_same, size1000 (by simp; omega), fun p5 hp5 => ?_⟩
      rw [eO]
      generalize hob : (ns.take j).map some ++ [none, o] = obs
      have obl : 0 < obs.length ∧ obs.length < 1000 := by
        rw [← hob]
        simp
        omega
      have obi : ∀ q ∈ obs, ∀ x, q = some x → x ∈ ns.take j := by
        rw [← hob]
        intro q hq x hx
        rcases List.mem_append.mp hq with hq | hq
        · obtain ⟨y, hy, e⟩ := List.mem_map.mp hq
          rw [hx] at e
          cases e
          exact hy
        · rcases List.mem_cons.mp hq with hq | hq
          · rw [hq] at hx
            cases hx
          · rw [List.mem_singleton.mp hq] at hx
            exact ho x hx
      have s8 := same_new (o := .lst (obs.map vOpt)) hp5
      have sAll := ((s1.trans s6).trans s7).trans s8
      have hp5b : p5 ≠ b := B3.ne (((s1.trans s6).trans s7).free hp5)
      have h8 : upd (upd H6 p4 (.lst [V.non, vOpt o])) p5 (.lst (obs.map vOpt)) p5 = some (.lst (obs.map vOpt)) := upd_same
      generalize upd (upd H6 p4 (.lst [V.non, vOpt o])) p5 (.lst (obs.map vOpt)) = H8 at sAll h8 ⊢
      have ha8 := sAll _ _ ha3
      have hc8 := sAll _ _ hc3
      have hd8 := DpAll.same sAll hd3
      have B8 := B3.same sAll
      refine ⟨_, rfl, .inl ⟨rfl, _, .inl (.inl hc8)⟩, _, rfl, _, rfl, a, _, _, .str ns[j], rfl, rfl, .inl (.inl ha8), ?_, _, rfl, _, rfl, _, rfl, _, obs.length, rfl, .inl ⟨_, .inl (.inl h8), by rw [List.length_map]⟩, b, obs.length, rfl, obl.1, obl.2, B8, fun i1 H9 hi1 b9 B9 => ?_⟩
      · rw [Int.zero_add]
        exact atI_nat (by rw [List.getElem?_map, List.getElem?_eq_getElem hj2]; rfl)
      have ha9 := b9 _ _ hab ha8
      have hc9 := b9 _ _ hcb hc8
      have h9 := b9 _ _ hp5b h8
      have hd9 := DpAll.but B8.noT b9 (noLs_map noL_ent _) hd8
      have hin : obs[i1] ∈ obs := List.getElem_mem hi1
      have hbase := obi _ hin
      refine ⟨p5, _, _, vOpt obs[i1], rfl, rfl, .inl (.inl h9), atI_nat (by rw [List.getElem?_map, List.getElem?_eq_getElem hi1]; rfl), _, rfl, _, rfl, b, a, ns, rfl, B9, ha9, hne, hle, fun v mts H10 b10 B10 hv hsd hms => ⟨three_le, fun t ht => ?_⟩⟩
      have st := same_new (o := .tup [V.str ns[j], vOpt obs[i1], v]) ht
      have ha11 := st _ _ (b10 _ _ hab ha9)
      have hc11 := st _ _ (b10 _ _ hcb hc9)
      have hd11 := DpAll.same st (DpAll.but B9.noT b10 (noLs_map noL_ent _) hd9)
      have bAll := (((b3.trans (But.of sAll)).trans b9).trans b10).trans (But.of st)
      have hent : Dp K (upd H10 t (.tup [V.str ns[j], vOpt obs[i1], v])) (.ref t) (dEnt ⟨ns[j], obs[i1], mts⟩) := .tup (.inl (.inl upd_same)) (.cons (.str _) (.cons Dp.opt (.cons (Dp.same st hv) .nil)))
      have nt := NoT.lst hc11
      have bb := but_self (o := .lst (vs ++ [V.ref t])) (But.refl c (upd H10 t (.tup [V.str ns[j], vOpt obs[i1], v])))
      have hvl : vs.length = es.length := DpAll.map_len hd3
      refine ⟨c, _, _, rfl, rfl, hc11, small1000 (by omega), es ++ [⟨ns[j], obs[i1], mts⟩], _, _, _, rfl, but_over bAll hcn, (B10.same st).over hcb, ?_, upd_same, ?_, ?_, ?_, ?_, ?_⟩
      · rw [upd_ne hac]
        exact ha11
      · rw [List.map_append]
        exact DpAll.append (DpAll.but nt bb (noLs_map noL_ent _) hd11) (DpAll.one (Dp.but nt bb (noL_ent _) hent))
      · rw [names, List.map_append, take_next (List.getElem?_eq_getElem hj2)]
        show names es ++ [ns[j]] = _
        rw [en]
      · refine BF.snoc bf fun x hx => ?_
        rw [en]
        exact hbase x hx
      · intro e he
        rcases List.mem_append.mp he with he | he
        · exact sd e he
        · rw [List.mem_singleton.mp he]
          exact hsd
      · intro e he
        rcases List.mem_append.mp he with he | he
        · exact ms e he
        · rw [List.mem_singleton.mp he]
          exact hms
    · rintro σ H3 ⟨es, vs, r4, r5, rfl, b3, B3, ha3, hc3, hd3, en, bf, sd, ms⟩
      have en2 : names es = ns := by
        rw [en]
        exact List.take_length
      refine ⟨_, rfl, k c es H3 b3 B3 ⟨vs, hc3, hd3⟩ ⟨?_, ?_, ?_, bf, sd, ?_⟩ hcb hcn⟩
      · have := congrArg List.length en2
        rw [names, List.length_map] at this
        omega
      · rw [en2]
        exact hnd
      · intro e he
        refine hok _ ?_
        rw [← en2]
        exact List.mem_map_of_mem he
      · rw [en2]
        exact ms
end
end K11
set_option Elab.async false
set_option linter.all false
set_option maxRecDepth 100000
set_option maxHeartbeats 4000000
/-! The walks: other names. -/
namespace K11
open PySem PySem.Spec PyProof.Rows L2
section
variable {P : Program} {w : World} {K : PySem.W.Frag} {mg : Str → Option Value} {base : Heap} {C : Addr}
def fresh12 : List Str := ["num", "nut", "class", "longer", "longes", "zz", "z", "y", "x", "a", "b", "ab"]
theorem fresh_ok : ∀ x ∈ fresh12, NameOk x := by decide +kernel
theorem fresh_nd : fresh12.Nodup := by decide +kernel
def mapKv (ps : List (Str × Str)) : List (Key × V) := ps.map fun p => ((Sum.inr p.1 : Key), V.str p.2)
structure MapOk (ns : List Str) (ps : List (Str × Str)) : Prop where
  keys : ps.map (·.1) = ns
  nd : (ps.map (·.2)).Nodup
  ok : ∀ y ∈ ps.map (·.2), NameOk y
def spMap (K : PySem.W.Frag) : Sp := fun vs H Q _ => ∃ (b a : Addr) (ns : List Str), vs = [.ref b, .ref a] ∧ BagAt H b ∧ H a = some (.lst (ns.map V.str)) ∧ ns.Nodup ∧ ns.length ≤ 7 ∧
  ∀ d ps H', But b H H' → BagAt H' b → H' d = some (.dK (mapKv ps)) → MapOk ns ps → Q (.ref d) H'
theorem letter_at : ∀ i < 26, letters.cps.toList[i]? = some (97 + i) := by decide +kernel
theorem joinL_one : ∀ cs : List Nat, TL.joinL [] (cs.map fun c => [c]) = cs
  | [] => rfl
  | [c] => rfl
  | c :: d :: r => by
    have ih := joinL_one (d :: r)
    rw [List.map_cons, List.map_cons, TL.joinL]
    rw [List.map_cons] at ih
    rw [ih]
    rfl
abbrev bad5 : List Str := ["", sSelf, sOther, sSuper, sRaises]
theorem join_letters (cs : List Nat) : Txt.join "" (cs.map fun c => (⟨#[c]⟩ : Str)) = (⟨cs.toArray⟩ : Str) := by
  have h := TL.tl_join "" (cs.map fun c => (⟨#[c]⟩ : Str))
  rw [List.map_map] at h
  have h2 : TL.joinL (TL.tl "") (cs.map (TL.tl ∘ fun c => (⟨#[c]⟩ : Str))) = cs := joinL_one cs
  rw [h2] at h
  rw [TL.join_eq]
  have h3 : ∀ x : Str, TL.tl x = cs → x = ⟨cs.toArray⟩ := fun x hx => by
    rw [← hx]
  exact h3 _ h
theorem sum_one : ∀ cs : List Nat, ((cs.map fun c => (⟨#[c]⟩ : Str)).map (·.length)).sum = cs.length
  | [] => rfl
  | c :: cs => by
    rw [List.map_cons, List.map_cons, List.sum_cons, sum_one cs, List.length_cons, Nat.add_comm]
    rfl
theorem name_of {cs : List Nat} (h1 : cs.length ≤ 6) (h2 : ∀ c ∈ cs, 97 ≤ c ∧ c ≤ 122) (h3 : (⟨cs.toArray⟩ : Str) ∉ bad5) : NameOk ⟨cs.toArray⟩ := by
  refine ⟨?_, ?_, fun h => h3 (List.mem_cons_of_mem _ h), ?_⟩
  · cases cs with
    | nil => exact absurd (List.mem_cons_self (a := ("" : Str))) h3
    | cons c cs => exact Nat.succ_le_of_lt (by simp [Str.length])
  · simpa [Str.length] using h1
  · simpa using h2
theorem putK_new {ps : List (Str × Str)} {n w : Str} (h : n ∉ ps.map (·.1)) : putK (mapKv ps) (Sum.inr n) (V.str w) = mapKv (ps ++ [(n, w)]) := by
  unfold putK mapKv
  rw [if_neg, List.map_append]
  · rfl
  · rw [List.any_map]
    intro z
    obtain ⟨p, hp, e⟩ := List.any_eq_true.mp z
    have e2 := of_decide_eq_true e
    exact h (List.mem_map.mpr ⟨p, hp, Sum.inr.inj e2⟩)
theorem mapKv_snd (ps : List (Str × Str)) : (mapKv ps).map Prod.snd = (ps.map (·.2)).map V.str := by
  unfold mapKv
  rw [List.map_map, List.map_map]
  rfl
theorem scMap : FnScope ["_law_bag_here", "_law_names_here", "_law_letters", "_law_found", "_law_fresh", "_law_name", "_law_size", "_law_drawn", "_law_turn"] ["_law_bag_here", "_law_names_here"] (defScope sLMap) := ⟨rfl, rfl, rfl, by decide +kernel, rfl, by decide +kernel, by decide +kernel⟩
abbrev NMap : List Str := ["_law_bag_here", "_law_names_here", "_law_letters", "_law_found", "_law_fresh", "_law_name", "_law_size", "_law_drawn", "_law_turn"]
theorem ok_map (T : Txt K mg) (F : FunAt K mg "_law_map" sLMap) (cT : Cal P w K mg base "_law_take" 1 ["_law_bag_here", "_law_many"] (spTake K)) : Cal P w K mg base "_law_map" 2 ["_law_bag_here", "_law_names_here"] (spMap K) := by
  refine cal_of F scMap (fun vs H Q E h => ?_) (fun _ _ _ _ _ _ us hl => match us, hl with | [_, _], _ => rfl) (fun f cdv A outer s H vs Q E hr h => ?_)
  · obtain ⟨b, a, ns, rfl, _⟩ := h
    rfl
  · obtain ⟨b, a, ns, rfl, hB, ha, hnd, hle, k⟩ := h
    have hu := hu_of hr
    refine ⟨_, pss_cons (ps_asg (pe_tup (pa_cons pe_str (pa_cons pe_dnewK pa_nil))) (pg_tup rfl (pgs_cons (pg_name (i := 2) scMap.nd rfl (Or.inr rfl)) (pgs_cons (pg_name (i := 3) scMap.nd rfl (Or.inl rfl)) pgs_nil))))
      (pss_cons (ps_set (i := 4) scMap.nd rfl (Or.inl rfl) (pe_lst (pa_cons pe_str (pa_cons pe_str (pa_cons pe_str (pa_cons pe_str (pa_cons pe_str (pa_cons pe_str (pa_cons pe_str (pa_cons pe_str (pa_cons pe_str (pa_cons pe_str (pa_cons pe_str (pa_cons pe_str pa_nil))))))))))))))
      (pss_cons (ps_for PassesOwn.never rfl (pi_list (pv 1)) (pg_name (i := 5) scMap.nd rfl (Or.inl rfl))
        (pss_cons (ps_set (i := 6) scMap.nd rfl (Or.inl rfl) (pe_cal cT hr (pa_cons (pv 0) (pa_cons pe_int pa_nil))))
        (pss_cons (ps_set (i := 7) scMap.nd rfl (Or.inl rfl) (pe_join pe_str (pe_lc (own := [("_law_turn", 8)]) (g := gName 8) (tt := tYes) (te := tOp rIxS (tVar 2) (tCalF (spTake K) (tCons (tVar 0) (tCons (tC (.int 26)) tNil)))) rfl scMap.nd (pi_range1 (by rfl) T.range (pa_cons (pv 6) pa_nil))
            (blkOk_by (N := NMap) (sc := defScope sLMap) (by decide +kernel))
            (fun _ _ _ _ _ => pg_name (i := 8) scMap.nd rfl (Or.inl rfl)) (fun _ _ _ _ _ => pts_nil)
            (fun _ _ _ _ _ => pe_ix ix_str (pv 2) (pe_cal cT hr (pa_cons (pv 0) (pa_cons pe_int pa_nil))) (fun _ _ => rfl)))))
        (pss_cons (ps_if (PW.pt (pw_or (pt_cmpR op_inS (pv 7) (pe_lst (pa_cons pe_str (pa_cons pe_str (pa_cons pe_str (pa_cons pe_str (pa_cons pe_str pa_nil)))))) (by rfl)) (pw_or (pt_cmp (pc_inVals rfl (pv 7) (pv 3))) (pw_or1 (pt_cmpR op_inS (pv 7) (pv 4) (by rfl))))))
            (pss_one (ps_set (i := 7) scMap.nd rfl (Or.inl rfl) (pe_bm PySem.F.plainAttrs_list PySem.F.slot_list_pop PySem.F.type_list_pop mt_popAt (pv 4) (pa_cons (pe_cal cT hr (pa_cons (pv 0) (pa_cons (pe_callB call_len (by rfl) T.len boot_len (pa_cons (pv 4) pa_nil)) pa_nil))) pa_nil)))) pss_nil)
        (pss_one (ps_asg (pv 7) (pg_sub (pv 3) (pv 5) (set_dict hu))))))))
      (pss_one (ps_ret (pv 3))))), ?_⟩
    have hab : a ≠ b := hB.neS ha
    refine fun d hd => ⟨two_le, fun t ht => ⟨t, _, rfl, .inl (.inl upd_same), rfl, _, _, rfl, _, _, rfl, rfl, ?_⟩⟩
    have sd := same_new (o := .dK []) hd
    have st := same_new (o := .tup [V.str letters, V.ref d]) ht
    have hd1 : upd (upd H d (.dK [])) t (.tup [V.str letters, V.ref d]) d = some (.dK (mapKv [])) := st _ _ upd_same
    have s1 := sd.trans st
    have hadn : a ≠ d := ne_of_none ha hd
    have hdb : d ≠ b := hB.ne hd
    have e1 : upd (upd H d (.dK [])) t (.tup [V.str "abcdefghijklmnopqrstuvwxyz", V.ref d]) = upd (upd H d (.dK [])) t (.tup [V.str letters, V.ref d]) := rfl
    rw [e1]
    generalize upd (upd H d (.dK [])) t (.tup [V.str letters, V.ref d]) = H1 at hd1 s1 ⊢
    refine ⟨by decide, fun L hL => ?_⟩
    have sL := same_new (o := .lst (fresh12.map V.str)) hL
    have hLn : H L = none := s1.free hL
    have hLb : L ≠ b := hB.ne hLn
    have haL : a ≠ L := ne_of_none ha hLn
    have hdL : d ≠ L := ne_of_none hd1 hL
    have s2 := s1.trans sL
    refine ⟨_, rfl, a, rfl, ⟨_, .inl (.inl (s2 _ _ ha))⟩, for_it walk_list (fun j σ H' => ∃ (ps : List (Str × Str)) (fs : List Str) (r5 r6 r7 : Option V), σ = [some (.ref b), some (.ref a), some (.str letters), some (.ref d), some (.ref L), r5, r6, r7, none] ∧
        But b H H' ∧ BagAt H' b ∧ H' a = some (.lst (ns.map V.str)) ∧ H' d = some (.dK (mapKv ps)) ∧ H' L = some (.lst (fs.map V.str)) ∧ ps.map (·.1) = ns.take j ∧ (ps.map (·.2) ++ fs).Nodup ∧ (∀ y ∈ ps.map (·.2) ++ fs, NameOk y) ∧ 12 ≤ fs.length + j ∧ fs.length ≤ 12)
      ⟨[], fresh12, _, _, _, rfl, But.of s2, hB.same s2, s2 _ _ ha, sL _ _ hd1, upd_same, rfl, fresh_nd, fresh_ok, by decide, by decide⟩ (fun j σ H' _ ⟨_, _, _, _, _, _, _, _, h, _⟩ => .inl (.inl h)) ?_ ?_⟩
    · rintro j x σ H3 H4' hj ⟨ps, fs, r5, r6, r7, rfl, b3, B3, ha3, hd3, hL3, ek, nd3, ok3, l1, l2⟩ ⟨rfl, hx⟩
      have hj2 : j < ns.length := by
        rw [List.length_map] at hj
        exact hj
      have en : ns[j]? = some ns[j] := List.getElem?_eq_getElem hj2
      have ex : x = .str ns[j] := by
        rw [List.getElem?_map, en] at hx
        exact (Option.some.inj hx).symm
      subst ex
      refine ⟨_, rfl, b, 7, rfl, by omega, by omega, B3, fun sz H4 hsz b4 B4 => ?_⟩
      have ha4 := b4 _ _ hab ha3
      have hd4 := b4 _ _ hdb hd3
      have hL4 := b4 _ _ hLb hL3
      refine ⟨⟨_, rfl⟩, _, rfl, (sz : Int), rfl, by omega, by omega, fun D hD => ?_⟩
      have hDb : D ≠ b := B4.ne hD
      have sD := same_new (o := .lst []) hD
      refine lc_it walk_range (fun i H' => ∃ cs : List Nat, But b H4 H' ∧ BagAt H' b ∧ H' D = some (.lst ((cs.map fun c => (⟨#[c]⟩ : Str)).map V.str)) ∧ cs.length = i ∧ ∀ c ∈ cs, 97 ≤ c ∧ c ≤ 122) ⟨[], But.of sD, B4.same sD, upd_same, rfl, fun c hc => by cases hc⟩ (fun _ _ _ _ => trivial) ?_ ?_
      · rintro i y H5 H5' hi ⟨cs, b5, B5, hD5, hcl, hcs⟩ ⟨rfl, rfl⟩
        refine ⟨rfl, _, rfl, _, rfl, b, 26, rfl, by omega, by omega, B5, fun i1 H6 hi1 b6 B6 => ?_⟩
        refine ⟨letters, _, 97 + i1, rfl, rfl, by decide +kernel, atI_nat (letter_at i1 hi1), _, b6 _ _ hDb hD5, small1000 ?_, cs ++ [97 + i1], but_over (b5.trans b6) hD, B6.over hDb, ?_, ?_, ?_⟩
        · have hi2 : i < sz := hi
          simp
          omega
        · rw [upd_same, List.map_append, List.map_append]
          rfl
        · rw [List.length_append, hcl]
          rfl
        · intro c hc
          rcases List.mem_append.mp hc with hc | hc
          · exact hcs c hc
          · rw [List.mem_singleton.mp hc]
            omega
      · rintro H6 ⟨cs, b6, B6, hD6, hcl, hcs⟩
        have hcl2 : cs.length = sz := hcl
        refine ⟨"", D, cs.map fun c => (⟨#[c]⟩ : Str), rfl, rfl, .inl (.inl (.inl hD6)), ?_, ?_⟩
        · have e1 : ((cs.map fun c => (⟨#[c]⟩ : Str)).map (·.length)).sum = cs.length := by
            exact sum_one cs
          have e2 : ("" : Str).length = 0 := rfl
          rw [e1, e2]
          omega
        rw [join_letters]
        have ha6 := b6 _ _ hab ha4
        have hd6 := b6 _ _ hdb hd4
        have hL6 := b6 _ _ hLb hL4
        have b36 := (b3.trans b4).trans b6
        generalize hw : (⟨cs.toArray⟩ : Str) = w
        have cond : ∀ G : Bool → Hp → Prop, (∀ c Hx, Same H6 Hx → (c = false → w ∉ bad5 ∧ w ∉ ps.map (·.2) ∧ w ∉ fs) → G c Hx) →
            tOr (tTest (tOp (rInS K) (tVar 7) (tLst (tCons (tC (.str "")) (tCons (tC (.str "self")) (tCons (tC (.str "other")) (tCons (tC (.str "super")) (tCons (tC (.str "raises")) tNil)))))))) (tOr (tB (tInVals (tVar 7) (tVar 3))) (tTest (tOp (rInS K) (tVar 7) (tVar 4))))
              [some (.ref b), some (.ref a), some (.str letters), some (.ref d), some (.ref L), some (.str ns[j]), some (.int (sz : Nat)), some (.str w), none] H6 G := fun G hG => by
          refine ⟨_, rfl, by decide, fun p hp => ?_⟩
          have sp := same_new (o := .lst (bad5.map V.str)) hp
          refine ⟨w, p, bad5, rfl, rfl, .inl (.inl (.inl upd_same)), _, rfl, ite2 (fun _ => hG true _ sp (fun z => by cases z)) (fun h1 => ?_)⟩
          refine ⟨_, rfl, _, rfl, d, _, w, _, rfl, rfl, sp _ _ hd6, mapKv_snd ps, _, rfl, ite2 (fun _ => hG true _ sp (fun z => by cases z)) (fun h2 => ?_)⟩
          refine ⟨_, rfl, _, rfl, w, L, fs, rfl, rfl, .inl (.inl (.inl (sp _ _ hL6))), _, rfl, hG _ _ sp fun h3 => ⟨?_, ?_, of_decide_eq_false h3⟩⟩
          · exact fun z => h1 (decide_eq_true z)
          · exact fun z => h2 (decide_eq_true z)
        refine cond _ fun c Hx sx hc => ?_
        have put : ∀ (Hy : Hp) (w' : Str) (fs' : List Str) (G : L2.St → Hp → Prop), But b H Hy → BagAt Hy b → Hy a = some (.lst (ns.map V.str)) → Hy d = some (.dK (mapKv ps)) → Hy L = some (.lst (fs'.map V.str)) → ((ps.map (·.2) ++ [w']) ++ fs').Nodup → (∀ y ∈ (ps.map (·.2) ++ [w']) ++ fs', NameOk y) →
            12 ≤ fs'.length + (j + 1) → fs'.length ≤ 12 →
            (∀ Hz, (∃ (ps : List (Str × Str)) (fs : List Str) (r5 r6 r7 : Option V), [some (V.ref b), some (.ref a), some (.str letters), some (.ref d), some (.ref L), some (.str ns[j]), some (.int (sz : Nat)), some (.str w'), none] = [some (V.ref b), some (.ref a), some (.str letters), some (.ref d), some (.ref L), r5, r6, r7, none] ∧
              But b H Hz ∧ BagAt Hz b ∧ Hz a = some (.lst (ns.map V.str)) ∧ Hz d = some (.dK (mapKv ps)) ∧ Hz L = some (.lst (fs.map V.str)) ∧ ps.map (·.1) = ns.take (j + 1) ∧ (ps.map (·.2) ++ fs).Nodup ∧ (∀ y ∈ ps.map (·.2) ++ fs, NameOk y) ∧ 12 ≤ fs.length + (j + 1) ∧ fs.length ≤ 12) → G [some (V.ref b), some (.ref a), some (.str letters), some (.ref d), some (.ref L), some (.str ns[j]), some (.int (sz : Nat)), some (.str w'), none] Hz) →
            gSub (tVar 3) (tVar 5) rSetD (.str w') [some (V.ref b), some (.ref a), some (.str letters), some (.ref d), some (.ref L), some (.str ns[j]), some (.int (sz : Nat)), some (.str w'), none] Hy G := fun Hy w' fs' G by1 B1 a1 d1 L1 n1 o1 q1 q2 hG => by
          have hpl : (mapKv ps).length ≤ 7 := by
            have := congrArg List.length ek
            rw [List.length_map, List.length_take] at this
            rw [mapKv, List.length_map, this]
            omega
          have hnew : ns[j] ∉ ps.map (·.1) := fun hm => by
            rw [ek] at hm
            obtain ⟨i, hi⟩ := List.mem_iff_getElem?.mp hm
            have hij : i < j := by
              have := (List.getElem?_eq_some_iff.mp hi).1
              rw [List.length_take] at this
              omega
            rw [List.getElem?_take, if_pos hij] at hi
            have := nodup_ix hnd hi en
            omega
          refine ⟨_, rfl, _, rfl, d, _, rfl, DPut.k (k := Sum.inr ns[j]) d1 (small1000 (by omega)), ?_⟩
          rw [putK_new hnew]
          refine hG _ ⟨ps ++ [(ns[j], w')], fs', _, _, _, rfl, but_over by1 hd, B1.over hdb, ?_, upd_same, ?_, ?_, ?_, ?_, q1, q2⟩
          · rw [upd_ne hadn]
            exact a1
          · rw [upd_ne hdL.symm]
            exact L1
          · rw [List.map_append, ek, take_next en]
            rfl
          · rw [List.map_append]
            exact n1
          · rw [List.map_append]
            exact o1
        have bx := b36.trans (But.of sx)
        have Bx := B6.same sx
        refine ite2 (fun _ => ?_) (fun hcf => ?_)
        · have hfl : 0 < fs.length := by omega
          refine ⟨_, rfl, .inl ⟨rfl, _, .inl (.inl (sx _ _ hL6))⟩, _, rfl, _, rfl, _, fs.length, rfl, .inl ⟨_, .inl (.inl (sx _ _ hL6)), by rw [List.length_map]⟩, b, fs.length, rfl, hfl, by omega, Bx, fun i1 H8 hi1 b8 B8 => ?_⟩
          have hy : fs[i1]? = some fs[i1] := List.getElem?_eq_getElem hi1
          refine ⟨L, _, (i1 : Int), i1, .str fs[i1], rfl, rfl, b8 _ _ hLb (sx _ _ hL6), by omega, by omega, six_nat (by rw [List.length_map]; exact hi1), by rw [List.getElem?_map, hy]; rfl, ?_⟩
          have pm := perm_pick (xs := ps.map (·.2)) hy
          refine ⟨_, rfl, put _ _ (fs.eraseIdx i1) _ (but_over (bx.trans b8) hLn) (B8.over hLb) ?_ ?_ ?_ (pm.nodup nd3) (fun y hy => ok3 y (pm.symm.subset hy)) ?_ ?_ fun Hz h => h⟩
          · rw [upd_ne haL]
            exact b8 _ _ hab (sx _ _ ha6)
          · rw [upd_ne hdL]
            exact b8 _ _ hdb (sx _ _ hd6)
          · rw [upd_same, map_erase]
          · rw [List.length_eraseIdx_of_lt hi1]
            omega
          · rw [List.length_eraseIdx_of_lt hi1]
            omega
        · have hcf : c = false := by cases c with | true => exact absurd rfl hcf | false => rfl
          obtain ⟨n1, n2, n3⟩ := hc hcf
          have pm : (ps.map (·.2) ++ [w] ++ fs).Perm (w :: (ps.map (·.2) ++ fs)) := by
            rw [List.append_assoc]
            exact List.perm_middle
          refine ⟨_, rfl, put _ w fs _ bx Bx (sx _ _ ha6) (sx _ _ hd6) (sx _ _ hL6) (pm.symm.nodup (List.nodup_cons.mpr ⟨fun z => (List.mem_append.mp z).elim n2 n3, nd3⟩)) (fun y hy => ?_) (by omega) l2 fun Hz h => h⟩
          rcases List.mem_cons.mp (pm.subset hy) with h | h
          · rw [h, ← hw]
            rw [← hw] at n1
            exact name_of (by omega) hcs n1
          · exact ok3 y h
    · rintro σ H3 ⟨ps, fs, r5, r6, r7, rfl, b3, B3, ha3, hd3, hL3, ek, nd3, ok3, l1, l2⟩
      refine ⟨_, rfl, k d ps H3 b3 B3 hd3 ⟨?_, (List.Nodup.sublist (List.sublist_append_left _ _) nd3), fun y hy => ok3 y (List.mem_append_left _ hy)⟩⟩
      rw [ek, List.length_map, List.take_length]
end
end K11
set_option Elab.async false
set_option linter.all false
set_option maxRecDepth 100000
set_option maxHeartbeats 4000000
/-! The walks: entries with other names. -/
namespace K11
open PySem PySem.Spec PyProof.Rows L2
def rho (ps : List (Str × Str)) (x : Str) : Str := ((ps.find? fun p => decide (p.1 = x)).map (·.2)).getD x
theorem mapKv_get (ps : List (Str × Str)) (x : Str) : valV (mapKv ps) (Sum.inr x : Key) = (ps.find? fun p => decide (p.1 = x)).map fun p => V.str p.2 := by
  unfold mapKv valV
  rw [List.find?_map]
  have e : ((fun kv : Key × V => decide (kv.1 = (Sum.inr x : Key))) ∘ fun p : Str × Str => ((Sum.inr p.1 : Key), V.str p.2)) = fun p : Str × Str => decide (p.1 = x) := by
    funext p
    exact decide_eq_decide.mpr ⟨fun h => Sum.inr.inj h, fun h => congrArg Sum.inr h⟩
  rw [e, Option.map_map]
  rfl
theorem map_getD (ps : List (Str × Str)) (x : Str) : (valV (mapKv ps) (Sum.inr x : Key)).getD (.str x) = .str (rho ps x) := by
  rw [mapKv_get]
  unfold rho
  cases ps.find? fun p => decide (p.1 = x) <;> rfl
theorem find_key {ns : List Str} {ps : List (Str × Str)} (M : MapOk ns ps) {x : Str} (h : x ∈ ns) : ∃ p, ps.find? (fun p => decide (p.1 = x)) = some p ∧ p ∈ ps ∧ p.1 = x := by
  cases e : ps.find? fun p => decide (p.1 = x) with
  | none =>
    rw [← M.keys] at h
    obtain ⟨p, hp, e2⟩ := List.mem_map.mp h
    have := List.find?_eq_none.mp e p hp
    simp [e2] at this
  | some p => exact ⟨p, rfl, List.mem_of_find?_eq_some e, of_decide_eq_true (List.find?_some (p := fun p : Str × Str => decide (p.1 = x)) e)⟩
theorem map_at {ns : List Str} {ps : List (Str × Str)} (M : MapOk ns ps) {x : Str} (h : x ∈ ns) : valV (mapKv ps) (Sum.inr x : Key) = some (.str (rho ps x)) := by
  obtain ⟨p, e, _⟩ := find_key M h
  rw [mapKv_get]
  unfold rho
  rw [e]
  rfl
theorem nodup_snd : ∀ {ps : List (Str × Str)}, (ps.map (·.2)).Nodup → ∀ {p q : Str × Str}, p ∈ ps → q ∈ ps → p.2 = q.2 → p = q
  | [], _, _, _, h, _, _ => by cases h
  | x :: ps, nd, p, q, hp, hq, e => by
    obtain ⟨n1, n2⟩ := List.nodup_cons.mp nd
    rcases List.mem_cons.mp hp with rfl | hp2
    · rcases List.mem_cons.mp hq with rfl | hq2
      · rfl
      · exact (n1 (List.mem_map.mpr ⟨q, hq2, e.symm⟩)).elim
    · rcases List.mem_cons.mp hq with rfl | hq2
      · exact (n1 (List.mem_map.mpr ⟨p, hp2, e⟩)).elim
      · exact nodup_snd n2 hp2 hq2 e
theorem rho_ren {es : List Ent} {ps : List (Str × Str)} (w : WF es) (M : MapOk (names es) ps) : Ren (names es) (rho ps) := by
  have no : ∀ z, z ∈ reserved → rho ps z = z := fun z hz => by
    unfold rho
    cases e : ps.find? fun p => decide (p.1 = z) with
    | none => rfl
    | some p =>
      have h1 := List.mem_of_find?_eq_some e
      have h2 : p.1 = z := of_decide_eq_true (List.find?_some (p := fun p : Str × Str => decide (p.1 = z)) e)
      have h3 : z ∈ names es := by
        rw [← M.keys, ← h2]
        exact List.mem_map_of_mem h1
      exact absurd hz (names_ok w h3).nr
  refine ⟨fun x hx y hy e => ?_, fun x hx => ?_, no _ (by simp [reserved]), no _ (by simp [reserved])⟩
  · obtain ⟨p, e1, hp, rfl⟩ := find_key M hx
    obtain ⟨q, e2, hq, rfl⟩ := find_key M hy
    have e3 : p.2 = q.2 := by
      have h1 : rho ps p.1 = p.2 := by unfold rho; rw [e1]; rfl
      have h2 : rho ps q.1 = q.2 := by unfold rho; rw [e2]; rfl
      rw [← h1, ← h2]
      exact e
    rw [nodup_snd M.nd hp hq e3]
  · obtain ⟨p, e1, hp, rfl⟩ := find_key M hx
    have h1 : rho ps p.1 = p.2 := by unfold rho; rw [e1]; rfl
    rw [h1]
    exact M.ok _ (List.mem_map_of_mem hp)
section
variable {P : Program} {w : World} {K : PySem.W.Frag} {mg : Str → Option Value} {base : Heap} {C : Addr}
def spRen (K : PySem.W.Frag) : Sp := fun vs H Q _ => ∃ (r d : Addr) (es : List Ent) (ps : List (Str × Str)), vs = [.ref r, .ref d] ∧ RowsAt K H r es ∧ H d = some (.dK (mapKv ps)) ∧ MapOk (names es) ps ∧ WF es ∧
  ∀ r' H', Same H H' → H r' = none → RowsAt K H' r' (es.map (renE (rho ps))) → Q (.ref r') H'
abbrev NRen : List Str := ["_law_entries_here", "_law_names_here", "_law_found", "_law_name", "_law_base", "_law_methods_here", "_law_own", "_law_side", "_law_cases", "_law_ending", "_law_moved_here", "_law_case"]
theorem scRen : FnScope NRen ["_law_entries_here", "_law_names_here"] (defScope sLRenamed) := ⟨rfl, rfl, rfl, by decide +kernel, rfl, by decide +kernel, by decide +kernel⟩
theorem ok_ren (T : Txt K mg) (F : FunAt K mg "_law_renamed" sLRenamed) : Cal P w K mg base "_law_renamed" 1 ["_law_entries_here", "_law_names_here"] (spRen K) := by
  refine cal_of F scRen (fun vs H Q E h => ?_) (fun _ _ _ _ _ _ us hl => match us, hl with | [_, _], _ => rfl) (fun f cdv A outer s H vs Q E hr h => ?_)
  · obtain ⟨r, d, es, ps, rfl, _⟩ := h
    rfl
  · obtain ⟨r, d, es, ps, rfl, ⟨xs, hr0, hxs⟩, hd, M, wf, k⟩ := h
    have hu := hu_of hr
    refine ⟨_, pss_cons (ps_set (i := 2) scRen.nd rfl (Or.inl rfl) (pe_lst pa_nil))
      (pss_cons (ps_for PassesOwn.never rfl (pi_list (pv 0)) (pg_tup rfl (pgs_cons (pg_name (i := 3) scRen.nd rfl (Or.inl rfl)) (pgs_cons (pg_name (i := 4) scRen.nd rfl (Or.inl rfl)) (pgs_cons (pg_name (i := 5) scRen.nd rfl (Or.inl rfl)) pgs_nil))))
        (pss_cons (ps_set (i := 6) scRen.nd rfl (Or.inl rfl) (pe_lst pa_nil))
        (pss_cons (ps_for PassesOwn.never rfl (pi_tup (pv 5)) (pg_tup rfl (pgs_cons (pg_name (i := 7) scRen.nd rfl (Or.inl rfl)) (pgs_cons (pg_name (i := 8) scRen.nd rfl (Or.inl rfl)) (pgs_cons (pg_name (i := 9) scRen.nd rfl (Or.inl rfl)) pgs_nil))))
          (pss_cons (ps_setLc (i := 10) (own := [("_law_case", 11)]) (g := gName 11) (tt := tYes) (te := tTup (tCons (tDGet (tVar 1) (tOp (rIxT K) (tVar 11) (tC (.int 0)))) (tCons (tGetN (tVar 1) (tOp (rIxT K) (tVar 11) (tC (.int 1))) (tOp (rIxT K) (tVar 11) (tC (.int 1)))) tNil)))
              rfl scRen.nd rfl rfl (sw_true rfl rfl rfl (by decide +kernel)) (pi_tup (pv 8)) (blkOk_by (N := NRen) (sc := defScope sLRenamed) (by decide +kernel))
              (fun _ _ _ _ _ => pg_name (i := 11) scRen.nd rfl (Or.inl rfl)) (fun _ _ _ _ _ => pts_nil)
              (fun _ _ _ _ _ => pe_tup (pa_cons (pe_dget hu (pv 1) (pe_ix ix_tup (pv 11) pe_int (fun _ _ => rfl)) (fun _ _ => rfl)) (pa_cons (pe_getN hu (pv 1) (pe_ix ix_tup (pv 11) pe_int (fun _ _ => rfl)) (pe_ix ix_tup (pv 11) pe_int (fun _ _ => rfl)) ⟨by rfl, by rfl, by rfl, by rfl⟩) pa_nil))))
          (pss_one (ps_expr (pe_bm PySem.F.plainAttrs_list PySem.F.slot_list_append PySem.F.type_list_append mt_append (pv 6) (pa_cons (pe_tup (pa_cons (pv 7) (pa_cons (pe_tupleOf (by rfl) T.tuple (pv 10)) (pa_cons (pv 9) pa_nil)))) pa_nil))))))
        (pss_one (ps_expr (pe_bm PySem.F.plainAttrs_list PySem.F.slot_list_append PySem.F.type_list_append mt_append (pv 2) (pa_cons (pe_tup (pa_cons (pe_dget hu (pv 1) (pv 3) (fun _ _ => rfl)) (pa_cons (pe_getN hu (pv 1) (pv 4) pe_non ⟨by rfl, by rfl, by rfl, by rfl⟩) (pa_cons (pe_tupleOf (by rfl) T.tuple (pv 6)) pa_nil)))) pa_nil)))))))
      (pss_one (ps_ret (pv 2)))), ?_⟩
    have hlen : xs.length = es.length := DpAll.map_len hxs
    have hfew := wf.few
    refine ⟨Nat.zero_le _, fun f hf => ?_⟩
    have sf := same_new (o := .lst []) hf
    refine ⟨_, rfl, r, rfl, ⟨xs, .inl (.inl (sf _ _ hr0))⟩, for_it walk_list (fun j σ H' => ∃ (vs : List V) (r3 r4 r5 r6 r7 r8 r9 r10 : Option V), σ = [some (.ref r), some (.ref d), some (.ref f), r3, r4, r5, r6, r7, r8, r9, r10, none] ∧
        Same H H' ∧ H' f = some (.lst vs) ∧ DpAll K H' vs ((es.take j).map fun e => dEnt (renE (rho ps) e)))
      ⟨[], _, _, _, _, _, _, _, _, rfl, sf, upd_same, .nil⟩ (fun j σ H' _ ⟨_, _, _, _, _, _, _, _, _, _, h, _⟩ => .inl (.inl (h _ _ hr0))) ?_ ?_⟩
    · rintro j x σ H3 H3' hj ⟨vs, r3, r4, r5, r6, r7, r8, r9, r10, rfl, s3, hf3, hv3⟩ ⟨rfl, hx⟩
      obtain ⟨e, he, hde⟩ := DpAll.map_get (DpAll.same s3 hxs) hx
      have hin := List.mem_of_getElem? he
      obtain ⟨a, m, rfl, ht, hm⟩ := ent_of hde
      obtain ⟨_, ms, em, hmt, hms⟩ := Dp.tup_of hm
      cases em
      have hml : ms.length = e.meths.length := DpAll.map_len hms
      have hm3 : e.meths.length ≤ 3 := by
        have := (wf.sd e hin).length_le
        rw [List.length_map] at this
        exact this
      refine ⟨a, _, rfl, ht, rfl, _, _, rfl, _, _, rfl, _, _, rfl, rfl, ?_⟩
      refine ⟨Nat.zero_le _, fun o ho => ?_⟩
      have so := same_new (o := .lst []) ho
      refine ⟨_, rfl, m, rfl, ⟨ms, Same.seqT so hmt⟩, for_it walk_tup (fun i σ H' => ∃ (ws : List V) (r7 r8 r9 r10 : Option V), σ = [some (.ref r), some (.ref d), some (.ref f), some (.str e.name), some (vOpt e.base), some (.ref m), some (.ref o), r7, r8, r9, r10, none] ∧
          Same H3' H' ∧ H' o = some (.lst ws) ∧ DpAll K H' ws ((e.meths.take i).map fun y => dMeth (renM (rho ps) y)))
        ⟨[], _, _, _, _, rfl, so, upd_same, .nil⟩ (fun i σ H' _ ⟨_, _, _, _, _, _, h, _⟩ => Same.seqT h hmt) ?_ ?_⟩
      · rintro i y σ H4 H4' hi ⟨ws, r7, r8, r9, r10, rfl, s4, ho4, hw4⟩ ⟨rfl, hy⟩
        obtain ⟨mt, hmt2, hdm⟩ := DpAll.map_get (DpAll.same s4 hms) hy
        obtain ⟨am, ac, rfl, htm, hc⟩ := meth_of hdm
        obtain ⟨_, cs, ec, hct, hcs⟩ := Dp.tup_of hc
        cases ec
        have mok := wf.ms e hin mt (List.mem_of_getElem? hmt2)
        have hcl : cs.length = mt.cases.length := DpAll.map_len hcs
        have hfw := mok.few
        have hd4 := (s3.trans s4) _ _ hd
        refine ⟨am, _, rfl, htm, rfl, _, _, rfl, _, _, rfl, _, _, rfl, rfl, ?_⟩
        refine ⟨_, rfl, ac, rfl, ⟨cs, hct⟩, fun D hD => ?_⟩
        refine lc_it walk_tup (fun k H' => ∃ us : List V, Same H4' H' ∧ H' D = some (.lst us) ∧ DpAll K H' us ((mt.cases.take k).map fun c => dCase (rho ps c.1, rho ps c.2))) ⟨[], same_new hD, upd_same, .nil⟩ (fun k H' _ ⟨_, h, _⟩ => Same.seqT h hct) ?_ ?_
        · rintro q z H5 H5' hq ⟨us, s5, hD5, hu5⟩ ⟨rfl, hz⟩
          obtain ⟨c, hcc, hdc⟩ := DpAll.map_get (DpAll.same s5 hcs) hz
          obtain ⟨az, rfl, haz⟩ := case_of hdc
          have hcin := List.mem_of_getElem? hcc
          have hd5 := s5 _ _ hd4
          have g1 := DGet.k (k := (Sum.inr c.1 : Key)) hd5
          rw [map_at M (mok.arg c hcin)] at g1
          refine ⟨rfl, _, rfl, _, rfl, az, _, 0, _, rfl, rfl, haz, rfl, d, _, rfl, g1, ?_⟩
          refine ⟨_, rfl, d, _, rfl, hd5, _, rfl, az, _, 1, _, rfl, rfl, haz, rfl, _, rfl, az, _, 1, _, rfl, rfl, haz, rfl, hd5, .inl ⟨Sum.inr c.2, rfl, ?_⟩⟩
          rw [map_getD]
          refine ⟨two_le, fun p hp => ?_⟩
          have sp := same_new (o := .tup [V.str (rho ps c.1), V.str (rho ps c.2)]) hp
          have hul : us.length ≤ 6 := by
            have := DpAll.map_len hu5
            rw [this, List.length_take]
            omega
          have nt := NoT.lst (sp _ _ hD5)
          have bb := but_self (o := .lst (us ++ [V.ref p])) (But.refl D (upd H5' p (.tup [V.str (rho ps c.1), V.str (rho ps c.2)])))
          refine ⟨us, sp _ _ hD5, small1000 (by omega), us ++ [V.ref p], same_over (s5.trans sp) hD, upd_same, ?_⟩
          rw [take_next hcc, List.map_append]
          exact DpAll.append (DpAll.but nt bb (noLs_map (fun c => noL_case _) _) (DpAll.same sp hu5)) (DpAll.one (Dp.but nt bb (noL_case _) (.tup (.inl (.inl upd_same)) (.cons (.str _) (.cons (.str _) .nil)))))
        · rintro H5 ⟨us, s5, hD5, hu5⟩
          rw [hcl, List.take_length] at hu5
          have ho5 := s5 _ _ ho4
          have s35 := s4.trans s5
          have hw5 := DpAll.same s5 hw4
          refine ⟨_, rfl, .inl ⟨rfl, _, .inl (.inl ho5)⟩, _, rfl, _, rfl, .inl ⟨D, us, rfl, .inl (.inl hD5), fun q hq => ⟨_, rfl, three_le, fun t ht => ?_⟩⟩⟩
          have sq := same_new (o := .tup us) hq
          have st := same_new (o := .tup [V.str mt.side, V.ref q, V.str mt.ending]) ht
          have sqt := sq.trans st
          have hwl : ws.length ≤ 3 := by
            have := DpAll.map_len hw4
            rw [this, List.length_take]
            omega
          have ho6 := sqt _ _ ho5
          have nt := NoT.lst ho6
          have bb := but_self (o := .lst (ws ++ [V.ref t])) (But.refl o (upd (upd H5 q (.tup us)) t (.tup [V.str mt.side, V.ref q, V.str mt.ending])))
          have hu6 : DpAll K (upd (upd H5 q (.tup us)) t (.tup [V.str mt.side, V.ref q, V.str mt.ending])) us ((renM (rho ps) mt).cases.map dCase) := by
            unfold renM
            rw [List.map_map]
            exact DpAll.same sqt hu5
          have hd6 : Dp K (upd (upd H5 q (.tup us)) t (.tup [V.str mt.side, V.ref q, V.str mt.ending])) (.ref t) (dMeth (renM (rho ps) mt)) := .tup (.inl (.inl upd_same)) (.cons (.str _) (.cons (.tup (.inl (.inl (st _ _ upd_same))) hu6) (.cons (.str _) .nil)))
          refine ⟨o, _, _, rfl, rfl, ho6, small1000 (by omega), ws ++ [V.ref t], _, _, _, _, rfl, same_over (s35.trans sqt) ho, upd_same, ?_⟩
          rw [take_next hmt2, List.map_append]
          exact DpAll.append (DpAll.but nt bb (noLs_map (fun c => noL_meth _) _) (DpAll.same sqt hw5)) (DpAll.one (Dp.but nt bb (noL_meth _) hd6))
      · rintro σ H4 ⟨ws, r7, r8, r9, r10, rfl, s4, ho4, hw4⟩
        rw [hml, List.take_length] at hw4
        have hd4 := (s3.trans s4) _ _ hd
        have hf4 := s4 _ _ hf3
        have hv4 := DpAll.same s4 hv3
        have hne : e.name ∈ names es := List.mem_map_of_mem hin
        have g1 := DGet.k (k := (Sum.inr e.name : Key)) hd4
        rw [map_at M hne] at g1
        have app : ∀ v, v = vOpt ((renE (rho ps) e).base) → ∀ q t, H4 q = none → upd H4 q (.tup ws) t = none →
            ∃ vs' : List V, Same H (upd (upd (upd H4 q (.tup ws)) t (.tup [V.str (rho ps e.name), v, V.ref q])) f (.lst (vs ++ [V.ref t]))) ∧ vs' = vs ++ [V.ref t] ∧
              DpAll K (upd (upd (upd H4 q (.tup ws)) t (.tup [V.str (rho ps e.name), v, V.ref q])) f (.lst (vs ++ [V.ref t]))) vs' ((es.take (j + 1)).map fun e => dEnt (renE (rho ps) e)) := fun v hv q t hq ht => by
          have sq := same_new (o := .tup ws) hq
          have st := same_new (o := .tup [V.str (rho ps e.name), v, V.ref q]) ht
          have sqt := sq.trans st
          have hf6 := sqt _ _ hf4
          have nt := NoT.lst hf6
          have bb := but_self (o := .lst (vs ++ [V.ref t])) (But.refl f (upd (upd H4 q (.tup ws)) t (.tup [V.str (rho ps e.name), v, V.ref q])))
          refine ⟨_, same_over ((s3.trans s4).trans sqt) hf, rfl, ?_⟩
          have hw6 : DpAll K (upd (upd H4 q (.tup ws)) t (.tup [V.str (rho ps e.name), v, V.ref q])) ws ((renE (rho ps) e).meths.map dMeth) := by
            unfold renE
            rw [List.map_map]
            exact DpAll.same sqt hw4
          have hd6 : Dp K (upd (upd H4 q (.tup ws)) t (.tup [V.str (rho ps e.name), v, V.ref q])) (.ref t) (dEnt (renE (rho ps) e)) := .tup (.inl (.inl upd_same)) (.cons (.str _) (.cons (hv ▸ Dp.opt) (.cons (.tup (.inl (.inl (st _ _ upd_same))) hw6) .nil)))
          rw [take_next he, List.map_append]
          exact DpAll.append (DpAll.but nt bb (noLs_map (fun c => noL_ent _) _) (DpAll.same sqt hv4)) (DpAll.one (Dp.but nt bb (noL_ent _) hd6))
        have hvl : vs.length ≤ 7 := by
          have := DpAll.map_len hv3
          rw [this, List.length_take]
          omega
        refine ⟨_, rfl, .inl ⟨rfl, _, .inl (.inl hf4)⟩, _, rfl, _, rfl, d, _, rfl, g1, ?_⟩
        refine ⟨_, rfl, d, _, rfl, hd4, _, rfl, hd4, ?_⟩
        cases hb : e.base with
        | none =>
          refine .inr ⟨rfl, _, rfl, .inl ⟨o, ws, rfl, .inl (.inl ho4), fun q hq => ⟨three_le, fun t ht => ?_⟩⟩⟩
          obtain ⟨vs', a1, a2, a3⟩ := app .non (by unfold renE; rw [hb]; rfl) q t hq ht
          subst a2
          exact ⟨f, _, _, rfl, rfl, ((same_new hq).trans (same_new ht)) _ _ hf4, small1000 (by omega), _, _, _, _, _, _, _, _, _, rfl, a1, upd_same, a3⟩
        | some x =>
          have hxn : x ∈ names es := base_in wf hin hb
          refine .inl ⟨Sum.inr x, rfl, ?_⟩
          rw [map_at M hxn]
          refine ⟨_, rfl, .inl ⟨o, ws, rfl, .inl (.inl ho4), fun q hq => ⟨three_le, fun t ht => ?_⟩⟩⟩
          obtain ⟨vs', a1, a2, a3⟩ := app (.str (rho ps x)) (by unfold renE; rw [hb]; rfl) q t hq ht
          subst a2
          exact ⟨f, _, _, rfl, rfl, ((same_new hq).trans (same_new ht)) _ _ hf4, small1000 (by omega), _, _, _, _, _, _, _, _, _, rfl, a1, upd_same, a3⟩
    · rintro σ H3 ⟨vs, r3, r4, r5, r6, r7, r8, r9, r10, rfl, s3, hf3, hv3⟩
      rw [hlen, List.take_length] at hv3
      refine ⟨_, rfl, k f H3 s3 hf ⟨vs, hf3, ?_⟩⟩
      rw [List.map_map]
      exact hv3
end
end K11
set_option Elab.async false
set_option linter.all false
set_option maxRecDepth 100000
set_option maxHeartbeats 4000000
/-! Data of entries and answers: sizes, equality. -/
namespace K11
open PySem PySem.Spec PyProof.Rows L2
def Lay (d : D) (k : Nat) : Prop := PyData.canLay0 d = true ∧ PyData.depth d ≤ k
theorem Lay.mono {d : D} {k j : Nat} (h : Lay d k) (e : k ≤ j) : Lay d j := ⟨h.1, Nat.le_trans h.2 e⟩
theorem layAll {k : Nat} : ∀ {ds : List D}, (∀ d ∈ ds, Lay d k) → PyData.canLayAll0 ds = true ∧ PyData.depthAll ds ≤ k
  | [], _ => ⟨rfl, Nat.zero_le _⟩
  | d :: ds, h => by
    obtain ⟨h1, h2⟩ := h d List.mem_cons_self
    obtain ⟨h3, h4⟩ := layAll fun x hx => h x (List.mem_cons_of_mem _ hx)
    refine ⟨?_, ?_⟩
    · rw [PyData.canLayAll0, h1, h3]
      rfl
    · rw [PyData.depthAll]
      exact Nat.max_le.mpr ⟨h2, h4⟩
theorem lay_tup {k : Nat} {ds : List D} (h : ∀ d ∈ ds, Lay d k) : Lay (.tuple ds) (k + 1) := by
  obtain ⟨h1, h2⟩ := layAll h
  exact ⟨by rw [PyData.canLay0]; exact h1, by rw [PyData.depth]; omega⟩
theorem lay_lst {k : Nat} {ds : List D} (h : ∀ d ∈ ds, Lay d k) : Lay (.list ds) (k + 1) := by
  obtain ⟨h1, h2⟩ := layAll h
  exact ⟨by rw [PyData.canLay0]; exact h1, by rw [PyData.depth]; omega⟩
theorem lay_str {x : Str} (h : PyData.canLay0 (.str x) = true) : Lay (.str x) 0 := ⟨h, by rw [PyData.depth]; exact Nat.le_refl _⟩
theorem lay_non : Lay .none 0 := ⟨rfl, by rw [PyData.depth]; exact Nat.le_refl _⟩
theorem lay_int (i : Int) : Lay (.int i) 0 := ⟨rfl, by rw [PyData.depth]; exact Nat.le_refl _⟩
theorem Lay.shaped {d : D} {k : Nat} (h : Lay d k) (e : k ≤ 64) : SeqAt.shaped d = true := by
  unfold SeqAt.shaped
  rw [h.1, decide_eq_true (Nat.le_trans h.2 e)]
  rfl
theorem word_lay : ∀ x ∈ [sSelf, sOther, sFwd, sRef, sInp, sDec, sSuper], PyData.canLay0 (.str x) = true := by
  intro x hx
  rw [PyData.canLay0]
  revert x
  decide +kernel
theorem lay_all3 {k : Nat} {a b c : D} (h1 : Lay a k) (h2 : Lay b k) (h3 : Lay c k) : ∀ d ∈ [a, b, c], Lay d k := fun d hd => by
  rcases List.mem_cons.mp hd with rfl | hd
  · exact h1
  · rcases List.mem_cons.mp hd with rfl | hd
    · exact h2
    · rw [List.mem_singleton.mp hd]
      exact h3
theorem lay_all2 {k : Nat} {a b : D} (h1 : Lay a k) (h2 : Lay b k) : ∀ d ∈ [a, b], Lay d k := fun d hd => by
  rcases List.mem_cons.mp hd with rfl | hd
  · exact h1
  · rw [List.mem_singleton.mp hd]
    exact h2
theorem lay_map {α : Type} {f : α → D} {k : Nat} {l : List α} (h : ∀ x ∈ l, Lay (f x) k) : ∀ d ∈ l.map f, Lay d k := fun d hd => by
  obtain ⟨x, hx, rfl⟩ := List.mem_map.mp hd
  exact h x hx
section
variable {es : List Ent} (w : WF es)
include w
theorem lay_name {x : Str} (h : x ∈ names es) : Lay (.str x) 0 := lay_str (name_str (names_ok w h))
theorem lay_meth {m : Mth} (mo : MethOk (names es) m) (hs : m.side ∈ sides) : Lay (dMeth m) 3 := by
  refine lay_tup (lay_all3 ?_ ?_ ?_)
  · refine (lay_str (word_lay _ ?_)).mono (Nat.zero_le _)
    rcases List.mem_cons.mp hs with h | hs
    · rw [h]; decide +kernel
    · rcases List.mem_cons.mp hs with h | hs
      · rw [h]; decide +kernel
      · rw [List.mem_singleton.mp hs]; decide +kernel
  · refine lay_tup (lay_map fun c hc => lay_tup (lay_all2 (lay_name w (mo.arg c hc)) ?_))
    rcases mo.res c hc with h | h | h
    · exact lay_name w h
    · rw [h]; exact lay_str (word_lay _ (by decide +kernel))
    · rw [h]; exact lay_str (word_lay _ (by decide +kernel))
  · refine (lay_str (word_lay _ ?_)).mono (Nat.zero_le _)
    rcases mo.ed with h | h
    · rw [h]; decide +kernel
    · rw [h]; decide +kernel
theorem lay_ent {e : Ent} (h : e ∈ es) : Lay (dEnt e) 5 := by
  refine lay_tup (lay_all3 ((lay_name w (List.mem_map_of_mem h)).mono (Nat.zero_le _)) ?_ (lay_tup (lay_map fun m hm => lay_meth w (w.ms e h m hm) ((w.sd e h).subset (List.mem_map_of_mem hm)))))
  cases hb : e.base with
  | none => exact lay_non.mono (Nat.zero_le _)
  | some b => exact (lay_name w (base_in w h hb)).mono (Nat.zero_le _)
theorem eqv_ent {e e' : Ent} (h : e ∈ es) (h' : e' ∈ es) : PyData.eqv (dEnt e) (dEnt e') = true ↔ e = e' := by
  constructor
  · intro q
    have q2 : e.name = e'.name := by
      simp only [dEnt, PyData.eqv, PyData.eqvAll, Bool.and_eq_true, beq_iff_eq] at q
      exact q.1
    have h1 := entOf_mem w.nd h
    have h2 := entOf_mem w.nd h'
    rw [q2, h2] at h1
    exact (Option.some.inj h1).symm
  · rintro rfl
    exact SeqAt.eqv_refl _ (lay_ent w h).1
theorem place_at : ∀ {l : List Ent}, (∀ e ∈ l, e ∈ es) → l.Nodup → ∀ {j : Nat} {e : Ent}, l[j]? = some e → SeqAt.dataPlace (l.map dEnt) (dEnt e) = some j
  | [], _, _, j, e, h => by simp at h
  | x :: l, hl, nd, 0, e, h => by
    simp at h
    subst h
    unfold SeqAt.dataPlace
    rw [List.map_cons, List.findIdx?_cons, (eqv_ent w (hl _ List.mem_cons_self) (hl _ List.mem_cons_self)).mpr rfl]
    rfl
  | x :: l, hl, nd, j + 1, e, h => by
    obtain ⟨n1, n2⟩ := List.nodup_cons.mp nd
    have h' : l[j]? = some e := by simpa using h
    have ih := place_at (fun e he => hl e (List.mem_cons_of_mem _ he)) n2 h'
    have hin := List.mem_of_getElem? h'
    unfold SeqAt.dataPlace at ih ⊢
    have hne : PyData.eqv (dEnt x) (dEnt e) = false := by
      cases q : PyData.eqv (dEnt x) (dEnt e) with
      | false => rfl
      | true =>
        have := (eqv_ent w (hl _ List.mem_cons_self) (hl _ (List.mem_cons_of_mem _ hin))).mp q
        exact absurd (this ▸ hin) n1
    rw [List.map_cons, List.findIdx?_cons, hne, ih]
    rfl
end
theorem eqv_nilD (ds : List D) : PyData.eqv (.list ds) (.list []) = decide (ds = []) := by
  cases ds <;> simp [PyData.eqv, PyData.eqvAll]
theorem nodup_of_names : ∀ {es : List Ent}, (names es).Nodup → es.Nodup
  | [], _ => List.nodup_nil
  | x :: es, h => by
    obtain ⟨n1, n2⟩ := List.nodup_cons.mp (show (x.name :: names es).Nodup from h)
    exact List.nodup_cons.mpr ⟨fun z => n1 (List.mem_map_of_mem z), nodup_of_names n2⟩
/-- of the entries that are left one is ready -/
theorem ready_some {fs found left : List Ent} (w : WF fs) (p : (found ++ left).Perm fs) (h : left ≠ []) : ∃ e ∈ left, ∀ b, e.base = some b → b ∈ names found := by
  have key : ∀ (i : Nat) (e : Ent), fs[i]? = some e → e ∈ left → ∃ e ∈ left, ∀ b, e.base = some b → b ∈ names found := by
    intro i
    induction i using Nat.strongRecOn with
    | ind i ih =>
      intro e he hl
      cases hb : e.base with
      | none => exact ⟨e, hl, fun b z => by rw [hb] at z; cases z⟩
      | some b =>
        rcases BF.earlier w.bf he hb with q | ⟨j, hj, q⟩
        · cases q
        · unfold names at q
          rw [List.getElem?_map] at q
          obtain ⟨e', he', rfl⟩ := Option.map_eq_some_iff.mp q
          rcases List.mem_append.mp (p.symm.subset (List.mem_of_getElem? he')) with m | m
          · exact ⟨e, hl, fun b z => by
              rw [hb] at z
              cases z
              exact List.mem_map_of_mem m⟩
          · exact ih j hj e' he' m
  obtain ⟨e, he⟩ := List.exists_mem_of_ne_nil _ h
  obtain ⟨i, hi⟩ := List.mem_iff_getElem?.mp (p.subset (List.mem_append_right _ he))
  exact key i e hi he
theorem WF.perm {fs gs : List Ent} (w : WF fs) (p : gs.Perm fs) (bf : BF [] gs) : WF gs := by
  have pn : (names gs).Perm (names fs) := p.map Ent.name
  refine ⟨?_, pn.nodup_iff.mpr w.nd, fun e he => w.ok e (p.subset he), bf, fun e he => w.sd e (p.subset he), fun e he m hm => ?_⟩
  · rw [p.length_eq]
    exact w.few
  · obtain ⟨a, b, c, d⟩ := w.ms e (p.subset he) m hm
    exact ⟨a, fun x hx => pn.symm.subset (b x hx), fun x hx => (c x hx).imp (fun z => pn.symm.subset z) id, d⟩
theorem WF.ren {es : List Ent} {ρ : Str → Str} (w : WF es) (r : Ren (names es) ρ) : WF (es.map (renE ρ)) := by
  have hn := names_ren ρ es
  have bfr : ∀ (l : List Ent) (known : List Str), (∀ e ∈ l, e ∈ es) → BF known l → BF (known.map ρ) (l.map (renE ρ)) := by
    intro l
    induction l with
    | nil => intro _ _ _; trivial
    | cons x l ih =>
      intro known hl hb
      refine ⟨fun b q => ?_, ?_⟩
      · unfold renE at q
        obtain ⟨c, hc, rfl⟩ := Option.map_eq_some_iff.mp q
        exact List.mem_map_of_mem (hb.1 c hc)
      · have := ih (known ++ [x.name]) (fun e he => hl e (List.mem_cons_of_mem _ he)) hb.2
        rw [List.map_append] at this
        exact this
  refine ⟨by rw [List.length_map]; exact w.few, ?_, fun e he => ?_, bfr es [] (fun _ h => h) w.bf, fun e he => ?_, fun e he m hm => ?_⟩
  · rw [hn]
    have gen : ∀ l : List Str, (∀ x ∈ l, x ∈ names es) → l.Nodup → (l.map ρ).Nodup := by
      intro l
      induction l with
      | nil => intro _ _; exact List.nodup_nil
      | cons x l ih =>
        intro hl nd
        obtain ⟨n1, n2⟩ := List.nodup_cons.mp nd
        refine List.nodup_cons.mpr ⟨fun hm => ?_, ih (fun y hy => hl y (List.mem_cons_of_mem _ hy)) n2⟩
        obtain ⟨y, hy, e⟩ := List.mem_map.mp hm
        have := r.inj _ (hl y (List.mem_cons_of_mem _ hy)) _ (hl x List.mem_cons_self) e
        exact n1 (this ▸ hy)
    exact gen _ (fun _ h => h) w.nd
  · obtain ⟨x, hx, rfl⟩ := List.mem_map.mp he
    exact r.ok _ (List.mem_map_of_mem hx)
  · obtain ⟨x, hx, rfl⟩ := List.mem_map.mp he
    have := w.sd x hx
    unfold SidesOk renE at *
    rw [List.map_map]
    exact this
  · obtain ⟨x, hx, rfl⟩ := List.mem_map.mp he
    obtain ⟨y, hy, rfl⟩ := List.mem_map.mp hm
    obtain ⟨a, b, c, d⟩ := w.ms x hx y hy
    rw [hn]
    refine ⟨by unfold renM; rw [List.length_map]; exact a, fun q hq => ?_, fun q hq => ?_, d⟩
    · obtain ⟨z, hz, rfl⟩ := List.mem_map.mp hq
      exact List.mem_map_of_mem (b z hz)
    · obtain ⟨z, hz, rfl⟩ := List.mem_map.mp hq
      rcases c z hz with h | h | h
      · exact .inl (List.mem_map_of_mem h)
      · exact .inr (.inl (by show ρ z.2 = sSelf; rw [h, r.self]))
      · exact .inr (.inr (by show ρ z.2 = sOther; rw [h, r.other]))
/-! ### answers -/
theorem caseF_res {L : List Str} : ∀ {cs : List (Str × Str)} {k : Nat} {p : Nat × Str}, caseF L cs k = some p → ∃ c ∈ cs, c.2 = p.2
  | [], _, _, h => by cases h
  | c :: cs, k, p, h => by
    unfold caseF at h
    by_cases q : c.1 ∈ L
    · rw [if_pos q] at h
      cases h
      exact ⟨c, List.mem_cons_self, rfl⟩
    · rw [if_neg q] at h
      obtain ⟨d, hd, e⟩ := caseF_res h
      exact ⟨d, List.mem_cons_of_mem _ hd, e⟩
theorem ask_in {es : List Ent} (w : WF es) {L : List Str} {s n o : Str} (hn : n ∈ names es) (ho : o ∈ names es) : ∀ {l : List Str} {p : Str × Nat × Str}, (∀ x ∈ l, x ∈ names es) → askL (ownOf es) L s n o l = some p → p.1 ∈ names es ∧ p.2.2 ∈ names es
  | [], _, _, e => by cases e
  | h :: t, p, hl, e => by
    unfold askL at e
    cases q : ownOf es h s with
    | none =>
      rw [q] at e
      exact ask_in w hn ho (fun x hx => hl x (List.mem_cons_of_mem _ hx)) e
    | some m =>
      rw [q] at e
      have mok : MethOk (names es) m := by
        unfold ownOf at q
        cases r : entOf es h with
        | none => rw [r] at q; cases q
        | some x => rw [r] at q; exact w.ms x (w.entIn r) m (List.mem_of_find?_eq_some q)
      cases q2 : caseF L m.cases 0 with
      | some c =>
        obtain ⟨i, x⟩ := c
        have e : (match caseF L m.cases 0 with | some (i, r) => some (h, i, resultF r n o) | none => if m.ending = sDec then none else askL (ownOf es) L s n o t) = some p := e
        rw [q2] at e
        cases e
        obtain ⟨c, hc, ec⟩ := caseF_res q2
        have ec : c.2 = x := ec
        refine ⟨hl h List.mem_cons_self, ?_⟩
        show resultF x n o ∈ names es
        unfold resultF
        by_cases z1 : x = sSelf
        · rw [if_pos z1]; exact hn
        · rw [if_neg z1]
          by_cases z2 : x = sOther
          · rw [if_pos z2]; exact ho
          · rw [if_neg z2]
            rcases mok.res c hc with h1 | h1 | h1
            · exact ec ▸ h1
            · exact absurd (ec ▸ h1) z1
            · exact absurd (ec ▸ h1) z2
      | none =>
        have e : (match caseF L m.cases 0 with | some (i, r) => some (h, i, resultF r n o) | none => if m.ending = sDec then none else askL (ownOf es) L s n o t) = some p := e
        rw [q2] at e
        have e : (if m.ending = sDec then none else askL (ownOf es) L s n o t) = some p := e
        by_cases z : m.ending = sDec
        · rw [if_pos z] at e
          cases e
        · rw [if_neg z] at e
          exact ask_in w hn ho (fun x hx => hl x (List.mem_cons_of_mem _ hx)) e
theorem side_lay {s : Str} (h : s ∈ sides) : Lay (.str s) 0 := by
  refine lay_str (word_lay _ ?_)
  rcases List.mem_cons.mp h with h | h
  · rw [h]; decide +kernel
  · rcases List.mem_cons.mp h with h | h
    · rw [h]; decide +kernel
    · rw [List.mem_singleton.mp h]; decide +kernel
/-- what an answer names -/
structure AnsOk (ns : List Str) (a : List Att × Option Str) : Prop where
  att : ∀ x ∈ a.1, x.1 ∈ ns ∧ x.2.1 ∈ sides ∧ ∀ p, x.2.2 = some p → p.1 ∈ ns ∧ p.2.1 ∈ sides
  res : ∀ r, a.2 = some r → r ∈ ns
theorem answer_in {es : List Ent} (w : WF es) : ∀ l : List Ord, (∀ x ∈ l, x.1 ∈ names es ∧ x.2.1 ∈ sides ∧ x.2.2 ∈ names es) → AnsOk (names es) (answerL es l)
  | [], _ => ⟨fun x hx => (by cases hx), fun r hr => by cases hr⟩
  | (n, s, o) :: t, hl => by
    obtain ⟨h1, h2, h3⟩ := hl _ List.mem_cons_self
    have ih := answer_in w t fun x hx => hl x (List.mem_cons_of_mem _ hx)
    cases e1 : homeF es n s with
    | none =>
      rw [answerL_none e1]
      exact ih
    | some hh =>
      cases e2 : askF es n s o with
      | none =>
        rw [answerL_pass e1 e2]
        refine ⟨fun x hx => ?_, ih.res⟩
        rcases List.mem_cons.mp hx with rfl | hx
        · exact ⟨h1, h2, fun p hp => by cases hp⟩
        · exact ih.att x hx
      | some p =>
        obtain ⟨h, i, r⟩ := p
        rw [answerL_hit e1 e2]
        unfold askF at e2
        obtain ⟨a1, a2⟩ := ask_in w h1 h3 (fun x hx => bases_in w h1 hx) e2
        refine ⟨fun x hx => ?_, fun r' hr => by cases hr; exact a2⟩
        rw [List.mem_singleton.mp hx]
        exact ⟨h1, h2, fun p hp => by cases hp; exact ⟨a1, h2⟩⟩
theorem answerF_in {es : List Ent} (w : WF es) {l r : Str} (hl : l ∈ names es) (hr : r ∈ names es) (way : Bool) : AnsOk (names es) (answerF es l r way) := answer_in w _ fun _ hx => order_in hl hr hx
theorem lay_ans {es : List Ent} (w : WF es) {a : List Att × Option Str} (h : AnsOk (names es) a) : Lay (dAns a) 5 := by
  refine (lay_tup (k := 3) (lay_all2 (lay_lst (lay_map fun x hx => lay_tup (lay_all3 ?_ ?_ ?_))) ?_)).mono (by decide)
  · exact (lay_name w (h.att x hx).1).mono (by decide)
  · exact (side_lay (h.att x hx).2.1).mono (by decide)
  · obtain ⟨n, s, o⟩ := x
    rcases o with _ | ⟨p, q, i⟩
    · exact lay_non.mono (by decide)
    · obtain ⟨p1, p2⟩ := (h.att _ hx).2.2 _ rfl
      exact lay_tup (lay_all3 (lay_name w p1) (side_lay p2) (lay_int _))
  · cases hr : a.2 with
    | none => exact lay_non.mono (by decide)
    | some r => exact (lay_name w (h.res r hr)).mono (by decide)
end K11
set_option Elab.async false
set_option linter.all false
set_option maxRecDepth 100000
set_option maxHeartbeats 4000000
/-! The walks: another order. -/
namespace K11
open PySem PySem.Spec PyProof.Rows L2
section
variable {P : Program} {w : World} {K : PySem.W.Frag} {mg : Str → Option Value} {base : Heap} {C : Addr}
def rInO' (K : PySem.W.Frag) : R2 := fun x y H Q => ∃ (o : Option Str) (q : Addr) (os : List (Option Str)), x = vOpt o ∧ y = .ref q ∧ SqL K H q (os.map vOpt) ∧ Q (.bl (decide (o ∈ os))) H
theorem inV_opts (o : Option Str) : ∀ os : List (Option Str), inV (vOpt o) (os.map vOpt) = decide (o ∈ os)
  | [] => rfl
  | p :: os => by
    show (eqV (vOpt p) (vOpt o) || inV (vOpt o) (os.map vOpt)) = _
    rw [inV_opts o os]
    have e : eqV (vOpt p) (vOpt o) = decide (o = p) := by
      cases p with
      | none => cases o <;> rfl
      | some y =>
        cases o with
        | none => rfl
        | some x =>
          show (y == x) = _
          by_cases h : x = y
          · subst h; simp
          · have h2 : ¬ y = x := fun z => h z.symm
            simp [h, h2]
    rw [e]
    by_cases h : o = p
    · simp [h]
    · simp [h]
theorem flat_opts (os : List (Option Str)) : (os.map vOpt).all flatV = true := by
  rw [List.all_eq_true]
  intro v hv
  obtain ⟨o, _, rfl⟩ := List.mem_map.mp hv
  cases o <;> rfl
theorem op_inO {X : Cx} : OpR X (compareOp .In) (rInO' X.K) := by
  intro pins s σ H x y v u Q I rx ry h
  obtain ⟨o, q, os, rfl, rfl, hq, k⟩ := h
  refine op_in_seq pins s σ H _ _ v u Q I rx ry ⟨q, _, rfl, .inl hq, by cases o <;> rfl, flat_opts os, ?_⟩
  rw [if_neg Bool.false_ne_true, inV_opts]
  exact k
def spOrd (K : PySem.W.Frag) : Sp := fun vs H Q _ => ∃ (b r : Addr) (fs : List Ent), vs = [.ref b, .ref r] ∧ BagAt H b ∧ RowsAt K H r fs ∧ WF fs ∧
  ∀ r' gs H', But b H H' → BagAt H' b → H r' = none → RowsAt K H' r' gs → gs.Perm fs → BF [] gs → Q (.ref r') H'
abbrev NOrd : List Str := ["_law_bag_here", "_law_entries_here", "_law_left", "_law_found", "_law_known", "_law_ready", "_law_entry"]
theorem scOrd : FnScope NOrd ["_law_bag_here", "_law_entries_here"] (defScope sLOrdered) := ⟨rfl, rfl, rfl, by decide +kernel, rfl, by decide +kernel, by decide +kernel⟩
/-- what holds ahead of each turn -/
def OrdW (K : PySem.W.Frag) (b r l f : Addr) (fs : List Ent) (H : Hp) (m : Nat) (σ : L2.St) (H' : Hp) : Prop :=
  ∃ (left found : List Ent) (ls vs : List V) (r4 r5 : Option V), σ = [some (.ref b), some (.ref r), some (.ref l), some (.ref f), r4, r5, none] ∧ left.length = m ∧ But b H H' ∧ BagAt H' b ∧ H' l = some (.lst ls) ∧ DpAll K H' ls (left.map dEnt) ∧
    H' f = some (.lst vs) ∧ DpAll K H' vs (found.map dEnt) ∧ (found ++ left).Perm fs ∧ BF [] found
theorem perm_pickA {α : Type} {xs ls : List α} {k : Nat} {y : α} (h : ls[k]? = some y) : (xs ++ ls).Perm ((xs ++ [y]) ++ ls.eraseIdx k) := by
  obtain ⟨h1, h2⟩ := List.getElem?_eq_some_iff.mp h
  rw [List.append_assoc]
  refine List.Perm.append_left xs ?_
  have e : ls = ls.take k ++ y :: ls.drop (k + 1) := by rw [← h2, ← List.drop_eq_getElem_cons h1, List.take_append_drop]
  rw [List.eraseIdx_eq_take_drop_succ]
  exact (List.Perm.of_eq e).trans List.perm_middle
theorem DpAll.erase {H : Hp} : ∀ {vs : List V} {ds : List D}, DpAll K H vs ds → ∀ j, DpAll K H (vs.eraseIdx j) (ds.eraseIdx j)
  | _, _, .nil, _ => .nil
  | _, _, .cons _ b, 0 => b
  | _, _, .cons a b, j + 1 => .cons a (DpAll.erase b j)
theorem ok_ord (T : Txt K mg) (F : FunAt K mg "_law_ordered" sLOrdered) (cT : Cal P w K mg base "_law_take" 1 ["_law_bag_here", "_law_many"] (spTake K)) : Cal P w K mg base "_law_ordered" 2 ["_law_bag_here", "_law_entries_here"] (spOrd K) := by
  refine cal_of F scOrd (fun vs H Q E h => ?_) (fun _ _ _ _ _ _ us hl => match us, hl with | [_, _], _ => rfl) (fun f cdv A outer s H vs Q E hr h => ?_)
  · obtain ⟨b, r, fs, rfl, _⟩ := h
    rfl
  · obtain ⟨b, r, fs, rfl, hB, ⟨xs, hr0, hxs⟩, wf, k⟩ := h
    have hu := hu_of hr
    refine ⟨_, pss_cons (ps_par (i := 2) (j := 3) (by rfl) scOrd.nd rfl rfl (by decide) rfl rfl (pa_cons (pe_callTy call_list_of (by rfl) T.list boot_list (pa_cons (pv 1) pa_nil)) (pa_cons (pe_lst pa_nil) pa_nil)) (by rfl))
      (pss_cons (ps_while PassesOwn.never (pt_cmpR (op_neD hr.units) (pv 2) (pe_lst pa_nil) (nomark _))
        (pss_cons (ps_set (i := 4) scOrd.nd rfl (Or.inr rfl) (pe_op op_cat (pe_lc (own := [("_law_entry", 6)]) (g := gName 6) (tt := tYes) (te := tOp (rIxT K) (tVar 6) (tC (.int 0))) rfl scOrd.nd (pi_list (pv 3)) (blkOk_by (N := NOrd) (sc := defScope sLOrdered) (by decide +kernel))
            (fun _ _ _ _ _ => pg_name (i := 6) scOrd.nd rfl (Or.inl rfl)) (fun _ _ _ _ _ => pts_nil) (fun _ _ _ _ _ => pe_ix ix_tup (pv 6) pe_int (fun _ _ => rfl))) (pe_lst (pa_cons pe_non pa_nil))))
        (pss_cons (ps_setLc (i := 5) (own := [("_law_entry", 6)]) (g := gName 6) (tt := tTest (tOp (rInO' K) (tOp (rIxT K) (tVar 6) (tC (.int 1))) (tVar 4))) (te := tVar 6) rfl scOrd.nd rfl rfl (sw_true rfl rfl rfl (by decide +kernel)) (pi_list (pv 2)) (blkOk_by (N := NOrd) (sc := defScope sLOrdered) (by decide +kernel))
            (fun _ _ _ _ _ => pg_name (i := 6) scOrd.nd rfl (Or.inl rfl)) (fun _ _ _ _ _ => pts_one (pt_cmpR op_inO (pe_ix ix_tup (pv 6) pe_int (fun _ _ => rfl)) (pv 4) (by rfl))) (fun _ _ _ _ _ => pv 6))
        (pss_cons (ps_expr (pe_bm PySem.F.plainAttrs_list PySem.F.slot_list_append PySem.F.type_list_append mt_append (pv 3) (pa_cons
            (pe_ix ix_list (pv 5) (pe_cal cT hr (pa_cons (pv 0) (pa_cons (pe_callB call_len (by rfl) T.len boot_len (pa_cons (pv 5) pa_nil)) pa_nil))) (fun _ _ => rfl)) pa_nil)))
        (pss_one (ps_expr (pe_bm PySem.F.plainAttrs_list PySem.F.slot_list_remove PySem.F.type_list_remove (mt_remD hr.units) (pv 2) (pa_cons (pe_ix ix_list (pv 3) (pe_un un_neg pe_int) (fun _ _ => rfl)) pa_nil))))))))
      (pss_one (ps_ret (pv 3)))), ?_⟩
    have one_le : 1 ≤ sizeLine := by decide
    refine ⟨_, rfl, r, xs, rfl, .inl (.inl (.inl hr0)), fun l hl => ⟨Nat.zero_le _, fun f hf => ⟨_, _, rfl, ?_⟩⟩⟩
    have sl := same_new (o := .lst xs) hl
    have sf := same_new (o := .lst []) hf
    have hfn : H f = none := sl.free hf
    have hlb : l ≠ b := hB.ne hl
    have hfb : f ≠ b := hB.ne hfn
    have hlf : l ≠ f := ne_of_none (upd_same (H := H) (a := l) (o := .lst xs)) hf
    have s01 := sl.trans sf
    refine ⟨OrdW K b r l f fs H, ⟨_, fs, [], xs, [], none, none, rfl, rfl, But.of s01, hB.same s01, sf _ _ upd_same, DpAll.same s01 hxs, upd_same, .nil, List.Perm.refl _, trivial⟩, ?_⟩
    rintro m σ H3 ⟨left, found, ls, vs, r4, r5, rfl, hm, b3, B3, hl3, hd3, hf3, hv3, pm, bf⟩
    have hin : ∀ e ∈ left, e ∈ fs := fun e he => pm.subset (List.mem_append_right _ he)
    have hfin : ∀ e ∈ found, e ∈ fs := fun e he => pm.subset (List.mem_append_left _ he)
    have hlen : found.length + left.length ≤ 7 := by
      have := pm.length_eq
      rw [List.length_append] at this
      have := wf.few
      omega
    have hls : ls.length = left.length := DpAll.map_len hd3
    have hvs : vs.length = found.length := DpAll.map_len hv3
    refine ⟨_, rfl, Nat.zero_le _, fun q hq => ⟨.list (left.map dEnt), .list [], .lst (.inl (.inl ((same_new hq) _ _ hl3))) (DpAll.same (same_new hq) hd3), .lst (.inl (.inl upd_same)) .nil, ?_, shaped_nil, _, rfl, ?_⟩⟩
    · exact (lay_lst (lay_map fun e he => lay_ent wf (hin e he))).shaped (by decide)
    have sq := same_new (o := .lst []) hq
    have b4 := b3.trans (But.of (b := b) sq)
    have B4 := B3.same sq
    have hl4 := sq _ _ hl3
    have hd4 := DpAll.same sq hd3
    have hf4 := sq _ _ hf3
    have hv4 := DpAll.same sq hv3
    generalize upd H3 q (.lst []) = H4 at b4 B4 hl4 hd4 hf4 hv4 ⊢
    rw [eqv_nilD]
    refine ite2 (fun hne => ?_) (fun he => ?_)
    · have hne : left ≠ [] := by
        intro z
        rw [z] at hne
        exact Bool.noConfusion hne
      refine ⟨fun σ' H' => ∃ m', m' < m ∧ OrdW K b r l f fs H m' σ' H', fun _ _ z => z, ?_⟩
      -- known
      refine ⟨_, rfl, f, rfl, ⟨vs, .inl (.inl hf4)⟩, fun D hD => ?_⟩
      refine lc_pure walk_list ((names found).map V.str) (by rw [names, List.length_map, List.length_map, hvs]) (by omega) (Same.refl H4) hD (fun _ s => s.seq (.inl (.inl hf4))) yAt_same ?_ ?_
      · rintro i y H0 H' Z hi s0 ⟨rfl, hy⟩ hZ
        obtain ⟨e, he, hd⟩ := DpAll.map_get hv4 hy
        obtain ⟨a, m', rfl, ht, _⟩ := ent_of (Dp.same s0 hd)
        refine ⟨rfl, _, rfl, a, _, 0, _, rfl, rfl, ht, rfl, hZ _ _ ?_ (Same.refl _)⟩
        unfold names
        rw [List.map_map, List.getElem?_map, he]
        rfl
      intro H5 s5 hD5
      refine ⟨one_le, fun p hp => ⟨D, p, _, _, rfl, rfl, (same_new hp) _ _ hD5, upd_same, size1000 (by simp [names]; omega), fun kn hkn => ?_⟩⟩
      have eK : (names found).map V.str ++ [V.non] = ((names found).map some ++ [none]).map vOpt := by
        rw [List.map_append, List.map_map]
        rfl
      rw [eK]
      generalize hks : (names found).map some ++ [none] = ks
      have s6 := (s5.trans (same_new (o := .lst [V.non]) hp)).trans (same_new (o := .lst (ks.map vOpt)) hkn)
      have hk6 : upd (upd H5 p (.lst [V.non])) kn (.lst (ks.map vOpt)) kn = some (.lst (ks.map vOpt)) := upd_same
      generalize upd (upd H5 p (.lst [V.non])) kn (.lst (ks.map vOpt)) = H6 at s6 hk6 ⊢
      have b6 := b4.trans (But.of (b := b) s6)
      have B6 := B4.same s6
      have hl6 := s6 _ _ hl4
      have hd6 := DpAll.same s6 hd4
      have hf6 := s6 _ _ hf4
      have hv6 := DpAll.same s6 hv4
      -- ready
      refine ⟨_, rfl, l, rfl, ⟨ls, .inl (.inl hl6)⟩, fun D2 hD2 => ?_⟩
      refine lc_it walk_list (fun i H' => ∃ (rs : List V) (re : List Ent), Same H6 H' ∧ H' D2 = some (.lst rs) ∧ DpAll K H' rs (re.map dEnt) ∧ re = (left.take i).filter fun e => decide (e.base ∈ ks)) ⟨[], [], same_new hD2, upd_same, .nil, rfl⟩ (fun i H' _ ⟨_, _, h, _⟩ => h.seq (.inl (.inl hl6))) ?_ ?_
      · rintro i y H7 H7' hi ⟨rs, re, s7, hD7, hr7, ere⟩ ⟨rfl, hy⟩
        obtain ⟨e, he, hd⟩ := DpAll.map_get (DpAll.same s7 hd6) hy
        obtain ⟨a, m', rfl, ht, _⟩ := ent_of hd
        have hre : re.length ≤ 7 := by
          rw [ere]
          have h1 := List.length_filter_le (fun e => decide (e.base ∈ ks)) (left.take i)
          have h2 : (left.take i).length ≤ left.length := by rw [List.length_take]; exact Nat.min_le_right _ _
          omega
        have hrl : rs.length = re.length := DpAll.map_len hr7
        refine ⟨rfl, _, rfl, a, _, 1, vOpt e.base, rfl, rfl, ht, rfl, _, rfl, e.base, kn, ks, rfl, rfl, .inl (.inl (s7 _ _ hk6)), _, rfl, ite2 (fun hb => ?_) (fun hb => ?_)⟩
        · have nt := NoT.lst hD7
          have bb := but_self (o := .lst (rs ++ [V.ref a])) (But.refl D2 H7')
          refine ⟨_, rfl, rs, hD7, small1000 (by omega), rs ++ [V.ref a], re ++ [e], same_over s7 hD2, upd_same, ?_, ?_⟩
          · rw [List.map_append]
            exact DpAll.append (DpAll.but nt bb (noLs_map noL_ent _) hr7) (DpAll.one (Dp.but nt bb (noL_ent _) hd))
          · rw [take_next he, List.filter_append, ← ere, List.filter_cons, hb]
            rfl
        · refine ⟨rs, re, s7, hD7, hr7, ?_⟩
          have hb2 : decide (e.base ∈ ks) = false := Bool.eq_false_iff.mpr hb
          rw [take_next he, List.filter_append, ← ere, List.filter_cons, hb2]
          simp
      · rintro H7 ⟨rs, re, s7, hD7, hr7, ere⟩
        rw [hls, List.take_length] at ere
        have hrl : rs.length = re.length := DpAll.map_len hr7
        have hpos : 0 < re.length := by
          obtain ⟨e, he, hb⟩ := ready_some wf pm hne
          have : e ∈ re := by
            rw [ere, List.mem_filter]
            refine ⟨he, decide_eq_true ?_⟩
            rw [← hks]
            cases q : e.base with
            | none => exact List.mem_append_right _ List.mem_cons_self
            | some x => exact List.mem_append_left _ (List.mem_map_of_mem (hb x q))
          exact List.length_pos_of_mem this
        have hre : re.length ≤ 7 := by
          rw [ere]
          have h1 := List.length_filter_le (fun e : Ent => decide (e.base ∈ ks)) left
          omega
        have b7 := b6.trans (But.of (b := b) s7)
        have B7 := B6.same s7
        have hl7 := s7 _ _ hl6
        have hd7 := DpAll.same s7 hd6
        have hf7 := s7 _ _ hf6
        have hv7 := DpAll.same s7 hv6
        have hD2b : D2 ≠ b := B6.ne hD2
        refine ⟨_, rfl, .inl ⟨rfl, _, .inl (.inl hf7)⟩, _, rfl, _, rfl, _, rfl, _, rs.length, rfl, .inl ⟨_, .inl (.inl hD7), rfl⟩, b, rs.length, rfl, by omega, by omega, B7, fun i1 H8 hi1 b8 B8 => ?_⟩
        have hD8 := b8 _ _ hD2b hD7
        have hf8 := b8 _ _ hfb hf7
        have hl8 := b8 _ _ hlb hl7
        have hd8 := DpAll.but B7.noT b8 (noLs_map noL_ent _) hd7
        have hv8 := DpAll.but B7.noT b8 (noLs_map noL_ent _) hv7
        have hr8 := DpAll.but B7.noT b8 (noLs_map noL_ent _) hr7
        have hy : rs[i1]? = some rs[i1] := List.getElem?_eq_getElem hi1
        obtain ⟨e, he, hde⟩ := DpAll.map_get hr8 hy
        have her : e ∈ re := List.mem_of_getElem? he
        rw [ere] at her
        obtain ⟨hel, hek⟩ := List.mem_filter.mp her
        have hek := of_decide_eq_true hek
        have hbase : ∀ x, e.base = some x → x ∈ names found := fun x hx => by
          rw [hx, ← hks] at hek
          rcases List.mem_append.mp hek with h | h
          · obtain ⟨z, hz, ez⟩ := List.mem_map.mp h
            cases ez
            exact hz
          · have := List.mem_singleton.mp h
            cases this
        obtain ⟨j, hj⟩ := List.mem_iff_getElem?.mp hel
        have hjl : j < left.length := (List.getElem?_eq_some_iff.mp hj).1
        refine ⟨D2, _, _, rs[i1], rfl, rfl, .inl (.inl hD8), atI_nat hy, f, _, _, rfl, rfl, hf8, small1000 (by omega), ?_⟩
        have nt := NoT.lst hf8
        have bb := but_self (o := .lst (vs ++ [rs[i1]])) (But.refl f H8)
        have hf9 : upd H8 f (.lst (vs ++ [rs[i1]])) f = some (.lst (vs ++ [rs[i1]])) := upd_same
        have hl9 := bb _ _ hlf hl8
        have hd9 := DpAll.but nt bb (noLs_map noL_ent _) hd8
        have hv9 := DpAll.append (DpAll.but nt bb (noLs_map noL_ent _) hv8) (DpAll.one (Dp.but nt bb (noL_ent _) hde))
        have he9 := Dp.but nt bb (noL_ent _) hde
        have b9 : But b H (upd H8 f (.lst (vs ++ [rs[i1]]))) := but_over (b7.trans b8) hfn
        have B9 := B8.over (o := .lst (vs ++ [rs[i1]])) hfb
        generalize upd H8 f (.lst (vs ++ [rs[i1]])) = H9 at hf9 hl9 hd9 hv9 he9 b9 B9 ⊢
        have lay := lay_ent wf (hin e hel)
        have layl := layAll (lay_map (f := dEnt) (k := 5) fun x hx => lay_ent wf (hin x hx))
        refine ⟨_, rfl, .inl ⟨rfl, _, .inl (.inl hl9)⟩, _, rfl, _, rfl, f, _, _, rs[i1], rfl, rfl, .inl (.inl hf9), atI_last _ _, l, ls, left.map dEnt, rs[i1], dEnt e, j, rfl, rfl, hl9, hd9, he9, PyData.plainAll_of_canLay0 _ layl.1, PyData.plain_of_canLay0 _ lay.1, Nat.le_trans lay.2 (by decide), ?_, ?_⟩
        · refine place_at wf hin ?_ hj
          exact List.Nodup.sublist (List.sublist_append_right _ _) (pm.symm.nodup (nodup_of_names wf.nd))
        · have nt2 := NoT.lst hl9
          have bb2 := but_self (o := .lst (ls.eraseIdx j)) (But.refl l H9)
          refine ⟨left.length - 1, by omega, left.eraseIdx j, found ++ [e], ls.eraseIdx j, vs ++ [rs[i1]], _, _, rfl, List.length_eraseIdx_of_lt hjl, but_over b9 hl, B9.over hlb, upd_same, ?_, ?_, ?_, (perm_pickA hj).symm.trans pm, BF.snoc bf hbase⟩
          · rw [← map_erase]
            exact DpAll.erase (DpAll.but nt2 bb2 (noLs_map noL_ent _) hd9) j
          · rw [upd_ne hlf.symm]
            exact hf9
          · rw [List.map_append]
            exact DpAll.but nt2 bb2 (by rw [← List.map_append (f := dEnt) (l₁ := found) (l₂ := [e])]; exact noLs_map noL_ent _) hv9
    · have hnil : left = [] := by
        have : left.map dEnt = [] := by
          cases q : decide (left.map dEnt = []) with
          | true => exact of_decide_eq_true q
          | false => rw [q] at he; exact absurd rfl he
        exact List.map_eq_nil_iff.mp this
      rw [hnil, List.append_nil] at pm
      exact ⟨_, rfl, k f found _ b4 B4 hfn ⟨vs, hf4, hv4⟩ pm bf⟩
end
end K11
set_option Elab.async false
set_option linter.all false
set_option maxRecDepth 100000
set_option maxHeartbeats 4000000
/-! The walks: an answer with other names, a class. -/
namespace K11
open PySem PySem.Spec PyProof.Rows L2
section
variable {P : Program} {w : World} {K : PySem.W.Frag} {mg : Str → Option Value} {base : Heap} {C : Addr}
def spMoved (K : PySem.W.Frag) : Sp := fun vs H Q _ => ∃ (v : V) (d : Addr) (es : List Ent) (ps : List (Str × Str)) (a : List Att × Option Str), vs = [v, .ref d] ∧ Dp K H v (dAns a) ∧ a.1.length ≤ 100 ∧ AnsOk (names es) a ∧ H d = some (.dK (mapKv ps)) ∧ MapOk (names es) ps ∧
  ∀ v' H', Same H H' → Dp K H' v' (dAns (movF (rho ps) a)) → Q v' H'
abbrev NMov : List Str := ["_law_found", "_law_names_here", "_law_attempts", "_law_name", "_law_side", "_law_place"]
theorem scMov : FnScope NMov ["_law_found", "_law_names_here"] (defScope sLMoved) := ⟨rfl, rfl, rfl, by decide +kernel, rfl, by decide +kernel, by decide +kernel⟩
theorem att_of {H : Hp} {v : V} {x : Att} (h : Dp K H v (dAtt x)) : ∃ a w, v = .ref a ∧ SqT K H a [.str x.1, .str x.2.1, w] ∧ Dp K H w (dPlace x.2.2) := by
  obtain ⟨a, xs, rfl, h1, h2⟩ := Dp.tup_of h
  cases h2 with
  | cons a1 h2 => cases h2 with
    | cons a2 h2 => cases h2 with
      | cons a3 h2 =>
        cases h2
        cases a1
        cases a2
        exact ⟨a, _, rfl, h1, a3⟩
theorem ok_moved (T : Txt K mg) (F : FunAt K mg "_law_moved" sLMoved) : Cal P w K mg base "_law_moved" 1 ["_law_found", "_law_names_here"] (spMoved K) := by
  refine cal_of F scMov (fun vs H Q E h => ?_) (fun _ _ _ _ _ _ us hl => match us, hl with | [_, _], _ => rfl) (fun f cdv A outer s H vs Q E hr h => ?_)
  · obtain ⟨v, d, es, ps, a, rfl, _⟩ := h
    rfl
  · obtain ⟨v, d, es, ps, a, rfl, hv, hal, aok, hd, M, k⟩ := h
    have hu := hu_of hr
    obtain ⟨t, ys, rfl, ht, hys⟩ := Dp.tup_of hv
    obtain ⟨vl, vr, rfl, hl, hres⟩ : ∃ vl vr, ys = [vl, vr] ∧ Dp K H vl (.list (a.1.map dAtt)) ∧ Dp K H vr (dOpt a.2) := by
      cases hys with
      | cons a1 h2 => cases h2 with
        | cons a2 h2 =>
          cases h2
          exact ⟨_, _, rfl, a1, a2⟩
    obtain ⟨l, xs, rfl, hlx, hxs⟩ := Dp.lst_of hl
    obtain rfl := Dp.opt_of hres
    have hlen : xs.length = a.1.length := DpAll.map_len hxs
    refine ⟨_, pss_cons (ps_set (i := 2) scMov.nd rfl (Or.inl rfl) (pe_lst pa_nil))
      (pss_cons (ps_for PassesOwn.never rfl (pi_list (pe_ix ix_tup (pv 0) pe_int (fun _ _ => rfl))) (pg_tup rfl (pgs_cons (pg_name (i := 3) scMov.nd rfl (Or.inl rfl)) (pgs_cons (pg_name (i := 4) scMov.nd rfl (Or.inl rfl)) (pgs_cons (pg_name (i := 5) scMov.nd rfl (Or.inl rfl)) pgs_nil))))
        (pss_one (ps_expr (pe_bm PySem.F.plainAttrs_list PySem.F.slot_list_append PySem.F.type_list_append mt_append (pv 2) (pa_cons (pe_tup (pa_cons (pe_dget hu (pv 1) (pv 3) (fun _ _ => rfl)) (pa_cons (pv 4) (pa_cons
            (pe_ifExp (pt_cmpR op_isN (pv 5) pe_non (nomark _)) pe_non (pe_tup (pa_cons (pe_dget hu (pv 1) (pe_ix ix_tup (pv 5) pe_int (fun _ _ => rfl)) (fun _ _ => rfl)) (pa_cons (pe_ix ix_tup (pv 5) pe_int (fun _ _ => rfl)) (pa_cons (pe_ix ix_tup (pv 5) pe_int (fun _ _ => rfl)) pa_nil))))) pa_nil)))) pa_nil)))))
      (pss_one (ps_ret (pe_tup (pa_cons (pv 2) (pa_cons (pe_getN hu (pv 1) (pe_ix ix_tup (pv 0) pe_int (fun _ _ => rfl)) pe_non ⟨by rfl, by rfl, by rfl, by rfl⟩) pa_nil)))))), ?_⟩
    refine ⟨Nat.zero_le _, fun f hf => ?_⟩
    have sf := same_new (o := .lst []) hf
    refine ⟨_, rfl, t, _, 0, _, rfl, rfl, Same.seqT sf ht, rfl, l, rfl, ⟨xs, sf.seq hlx⟩, for_it walk_list (fun j σ H' => ∃ (vs : List V) (r3 r4 r5 : Option V), σ = [some (.ref t), some (.ref d), some (.ref f), r3, r4, r5] ∧
        Same H H' ∧ H' f = some (.lst vs) ∧ DpAll K H' vs ((a.1.take j).map fun x => dAtt (movA (rho ps) x)))
      ⟨[], _, _, _, rfl, sf, upd_same, .nil⟩ (fun j σ H' _ ⟨_, _, _, _, _, h, _⟩ => h.seq hlx) ?_ ?_⟩
    · rintro j x σ H3 H3' hj ⟨vs, r3, r4, r5, rfl, s3, hf3, hv3⟩ ⟨rfl, hx⟩
      obtain ⟨⟨n, z, o⟩, hy, hdy⟩ := DpAll.map_get (DpAll.same s3 hxs) hx
      obtain ⟨b, w1, rfl, hb, hw1⟩ := att_of hdy
      obtain ⟨in1, in2, in3⟩ := aok.att _ (List.mem_of_getElem? hy)
      have hd3 := s3 _ _ hd
      have g1 := DGet.k (k := (Sum.inr n : Key)) hd3
      rw [map_at M in1] at g1
      have hvl : vs.length ≤ 100 := by
        have := DpAll.map_len hv3
        rw [this, List.length_take]
        omega
      have app : ∀ (Hx : Hp) (u : V) (q : Addr), Same H3' Hx → Dp K Hx u (dPlace (o.map fun p => (rho ps p.1, p.2.1, p.2.2))) → Hx q = none →
          Same H (upd (upd Hx q (.tup [V.str (rho ps n), V.str z, u])) f (.lst (vs ++ [V.ref q]))) ∧ upd Hx q (.tup [V.str (rho ps n), V.str z, u]) f = some (.lst vs) ∧
            DpAll K (upd (upd Hx q (.tup [V.str (rho ps n), V.str z, u])) f (.lst (vs ++ [V.ref q]))) (vs ++ [V.ref q]) ((a.1.take (j + 1)).map fun x => dAtt (movA (rho ps) x)) := fun Hx u q sx hu hq => by
        have sq := same_new (o := .tup [V.str (rho ps n), V.str z, u]) hq
        have hf6 := (sx.trans sq) _ _ hf3
        have nt := NoT.lst hf6
        have bb := but_self (o := .lst (vs ++ [V.ref q])) (But.refl f (upd Hx q (.tup [V.str (rho ps n), V.str z, u])))
        refine ⟨same_over (s3.trans (sx.trans sq)) hf, hf6, ?_⟩
        rw [take_next hy, List.map_append]
        have hd6 : Dp K (upd Hx q (.tup [V.str (rho ps n), V.str z, u])) (.ref q) (dAtt (movA (rho ps) (n, z, o))) := .tup (.inl (.inl upd_same)) (.cons (.str _) (.cons (.str _) (.cons (Dp.same sq hu) .nil)))
        exact DpAll.append (DpAll.but nt bb (noLs_map (fun c => noL_att _) _) (DpAll.same (sx.trans sq) hv3)) (DpAll.one (Dp.but nt bb (noL_att _) hd6))
      refine ⟨b, _, rfl, hb, rfl, _, _, rfl, _, _, rfl, _, _, rfl, rfl, ?_⟩
      refine ⟨_, rfl, .inl ⟨rfl, _, .inl (.inl hf3)⟩, _, rfl, _, rfl, d, _, rfl, g1, _, rfl, _, rfl, rfl, _, rfl, ?_⟩
      rcases o with _ | ⟨h, s', i⟩
      · cases hw1
        refine iteT ⟨three_le, fun q hq => ?_⟩
        obtain ⟨a1, a2, a3⟩ := app H3' .non q (Same.refl _) .non hq
        exact ⟨f, _, _, rfl, rfl, a2, small1000 (by omega), _, _, _, _, rfl, a1, upd_same, a3⟩
      · obtain ⟨p1, p2⟩ := in3 _ rfl
        obtain ⟨pa, zs, rfl, hpa, hzs⟩ := Dp.tup_of hw1
        obtain rfl : zs = [V.str h, V.str s', V.int (i : Int)] := by
          cases hzs with
          | cons a1 h2 => cases h2 with
            | cons a2 h2 => cases h2 with
              | cons a3 h2 =>
                cases h2
                cases a1
                cases a2
                cases a3
                rfl
        have g2 := DGet.k (k := (Sum.inr h : Key)) hd3
        rw [map_at M p1] at g2
        refine iteF ⟨_, rfl, _, rfl, pa, _, 0, _, rfl, rfl, hpa, rfl, d, _, rfl, g2, _, rfl, pa, _, 1, _, rfl, rfl, hpa, rfl, _, rfl, pa, _, 2, _, rfl, rfl, hpa, rfl, three_le, fun u hu1 => ⟨three_le, fun q hq => ?_⟩⟩
        have su := same_new (o := .tup [V.str (rho ps h), V.str s', V.int (i : Int)]) hu1
        obtain ⟨a1, a2, a3⟩ := app _ (.ref u) q su (.tup (.inl (.inl upd_same)) (.cons (.str _) (.cons (.str _) (.cons (.int _) .nil)))) hq
        exact ⟨f, _, _, rfl, rfl, a2, small1000 (by omega), _, _, _, _, rfl, a1, upd_same, a3⟩
    · rintro σ H3 ⟨vs, r3, r4, r5, rfl, s3, hf3, hv3⟩
      rw [hlen, List.take_length] at hv3
      have hd3 := s3 _ _ hd
      have fin : ∀ (q : Addr), H3 q = none → Q (.ref q) (upd H3 q (.tup [.ref f, vOpt (a.2.map (rho ps))])) := fun q hq => by
        have sq := same_new (o := .tup [.ref f, vOpt (a.2.map (rho ps))]) hq
        refine k _ _ (s3.trans sq) (.tup (.inl (.inl upd_same)) (.cons (.lst (.inl (.inl (sq _ _ hf3))) ?_) (.cons Dp.opt .nil)))
        unfold movF
        rw [List.map_map]
        exact DpAll.same sq hv3
      refine ⟨_, rfl, _, rfl, d, _, rfl, hd3, _, rfl, t, _, 1, _, rfl, rfl, Same.seqT s3 ht, rfl, hd3, ?_⟩
      cases hr2 : a.2 with
      | none =>
        rw [hr2] at fin
        exact .inr ⟨rfl, two_le, fin⟩
      | some x =>
        rw [hr2] at fin
        refine .inl ⟨Sum.inr x, rfl, ?_⟩
        rw [map_at M (aok.res x hr2)]
        exact ⟨two_le, fin⟩
end
end K11
set_option Elab.async false
set_option linter.all false
set_option maxRecDepth 100000
set_option maxHeartbeats 4000000
/-! The walks: a class is right. -/
namespace K11
open PySem PySem.Spec PyProof.Rows L2
section
variable {P : Program} {w : World} {K : PySem.W.Frag} {mg : Str → Option Value} {base : Heap} {C : Addr}
/-- two books and the names between them -/
structure Two (K : PySem.W.Frag) (C : Addr) (H : Hp) (p p2 d : Addr) (es es2 : List Ent) (ps : List (Str × Str)) : Prop where
  b1 : BookAt K C H p es
  b2 : BookAt K C H p2 es2
  d : H d = some (.dK (mapKv ps))
  M : MapOk (names es) ps
  R : Ren (names es) (rho ps)
  S : Sim (rho ps) es es2
  ns : ∀ x ∈ names es, rho ps x ∈ names es2
theorem Two.same {H H' : Hp} {p p2 d : Addr} {es es2 : List Ent} {ps : List (Str × Str)} (t : Two K C H p p2 d es es2 ps) (s : Same H H') : Two K C H' p p2 d es es2 ps :=
  ⟨t.b1.same s, t.b2.same s, s _ _ t.d, t.M, t.R, t.S, t.ns⟩
theorem Two.get {H : Hp} {p p2 d : Addr} {es es2 : List Ent} {ps : List (Str × Str)} (t : Two K C H p p2 d es es2 ps) {x : Str} (h : x ∈ names es) : DGet H d (.str x) (some (.str (rho ps x))) := by
  have g := DGet.k (k := (Sum.inr x : Key)) t.d
  rw [map_at t.M h] at g
  exact g
theorem BookAt.ins {H : Hp} {p : Addr} {es : List Ent} (h : BookAt K C H p es) : ∃ dx fs, H p = some (.ins C dx fs) ∧ ∀ m : Str, ¬ m = "rows" → ¬ m = "parents" → ¬ m = "own" → fs.lookup m = none := by
  obtain ⟨wf, dx, r, pa, ow, kvs, h1, _⟩ := h
  exact ⟨dx, _, h1, fun m a b c => flds_no _ _ _ a b c⟩
def spClass (K : PySem.W.Frag) (C : Addr) : Sp := fun vs H Q _ => ∃ (p p2 d : Addr) (es es2 : List Ent) (ps : List (Str × Str)) (n : Str), vs = [.ref p, .ref p2, .ref d, .str n] ∧ Two K C H p p2 d es es2 ps ∧ n ∈ names es ∧
  ∀ H', Same H H' → Q (.bl true) H'
abbrev NCla : List Str := ["_law_book", "_law_other", "_law_names_here", "_law_name", "_law_one", "_law_side", "_law_here", "_law_there"]
theorem scCla : FnScope NCla ["_law_book", "_law_other", "_law_names_here", "_law_name"] (defScope sLClass) := ⟨rfl, rfl, rfl, by decide +kernel, rfl, by decide +kernel, by decide +kernel⟩
theorem eqv_bool (a b : Bool) : PyData.eqv (.bool a) (.bool b) = (a == b) := by rw [PyData.eqv]
theorem ok_class (T : Txt K mg) (B : Bok K C) (F : FunAt K mg "_law_class_right" sLClass) (cB : MCal P w K mg base C "bases" 3 ["self", "name"] (spBases K C)) (cM : MCal P w K mg base C "method" 4 ["self", "name", "side"] (spMethod K C)) :
    Cal P w K mg base "_law_class_right" 5 ["_law_book", "_law_other", "_law_names_here", "_law_name"] (spClass K C) := by
  refine cal_of F scCla (fun vs H Q E h => ?_) (fun _ _ _ _ _ _ us hl => match us, hl with | [_, _, _, _], _ => rfl) (fun f cdv A outer s H vs Q E hr h => ?_)
  · obtain ⟨p, p2, d, es, es2, ps, n, rfl, _⟩ := h
    rfl
  · obtain ⟨p, p2, d, es, es2, ps, n, rfl, Tw, hn, k⟩ := h
    have hu := hu_of hr
    have hr3 : Room 3 _ := hr.mono (by decide)
    have wf := Tw.b1.wf
    have wf2 := Tw.b2.wf
    refine ⟨_, pss_cons (ps_if (pt_cmpR (op_neD hr.units) (pe_lc (own := [("_law_one", 4)]) (g := gName 4) (tt := tYes) (te := tDGet (tVar 2) (tVar 4)) rfl scCla.nd (pi_list (pe_mcal cB B.cl hr3 (pv 0) (pa_cons (pv 3) pa_nil))) (blkOk_by (N := NCla) (sc := defScope sLClass) (by decide +kernel))
            (fun _ _ _ _ _ => pg_name (i := 4) scCla.nd rfl (Or.inl rfl)) (fun _ _ _ _ _ => pts_nil) (fun _ _ _ _ _ => pe_dget hu (pv 2) (pv 4) (fun _ _ => rfl)))
          (pe_mcal cB B.cl hr3 (pv 1) (pa_cons (pe_dget hu (pv 2) (pv 3) (fun _ _ => rfl)) pa_nil)) (nomark _)) (pss_one (ps_ret pe_bl)) pss_nil)
      (pss_cons (ps_for PassesOwn.never rfl (pi_list (pe_lst (pa_cons pe_str (pa_cons pe_str (pa_cons pe_str pa_nil))))) (pg_name (i := 5) scCla.nd rfl (Or.inl rfl))
        (pss_cons (ps_par (i := 6) (j := 7) (by rfl) scCla.nd rfl rfl (by decide) rfl rfl (pa_cons (pe_mcal cM B.cl hr (pv 0) (pa_cons (pv 3) (pa_cons (pv 5) pa_nil)))
            (pa_cons (pe_mcal cM B.cl hr (pv 1) (pa_cons (pe_dget hu (pv 2) (pv 3) (fun _ _ => rfl)) (pa_cons (pv 5) pa_nil))) pa_nil)) (by rfl))
        (pss_cons (ps_if (pt_cmpR (op_neD hr.units) (pe_cmpR op_isN (pv 6) pe_non (nomark _)) (pe_cmpR op_isN (pv 7) pe_non (nomark _)) (nomark _)) (pss_one (ps_ret pe_bl)) pss_nil)
        (pss_cons (ps_if (PW.pt (pw_and (pt_cmpR op_notN (pv 6) pe_non (nomark _)) (pw_and1 (pt_cmpR (op_neD hr.units)
            (pe_tup (pa_cons (pe_dget hu (pv 2) (pe_ix ix_tup (pv 6) pe_int (fun _ _ => rfl)) (fun _ _ => rfl)) (pa_cons (pe_ix ix_tup (pv 6) pe_int (fun _ _ => rfl)) pa_nil)))
            (pe_tup (pa_cons (pe_ix ix_tup (pv 7) pe_int (fun _ _ => rfl)) (pa_cons (pe_ix ix_tup (pv 7) pe_int (fun _ _ => rfl)) pa_nil))) (nomark _))))) (pss_one (ps_ret pe_bl)) pss_nil)
        (pss_one (ps_if (PW.pt (pw_and (pt_cmpR op_notN (pv 6) pe_non (nomark _)) (pw_and1 (pt_cmpR (op_neD hr.units)
            (pe_callB call_len (by rfl) T.len boot_len (pa_cons (pe_ix ix_tup (pv 6) pe_int (fun _ _ => rfl)) pa_nil))
            (pe_callB call_len (by rfl) T.len boot_len (pa_cons (pe_ix ix_tup (pv 7) pe_int (fun _ _ => rfl)) pa_nil)) (nomark _))))) (pss_one (ps_ret pe_bl)) pss_nil))))))
      (pss_one (ps_ret pe_bl))), ?_⟩
    obtain ⟨dx, f1, hi1, no1⟩ := Tw.b1.ins
    obtain ⟨dx2, f2, hi2, no2⟩ := Tw.b2.ins
    have nB : ¬ ("bases" : Str) = "rows" ∧ ¬ ("bases" : Str) = "parents" ∧ ¬ ("bases" : Str) = "own" := by decide +kernel
    have nM : ¬ ("method" : Str) = "rows" ∧ ¬ ("method" : Str) = "parents" ∧ ¬ ("method" : Str) = "own" := by decide +kernel
    have hn2 := Tw.ns n hn
    have hbl : (bases es n).length ≤ 7 := Nat.le_trans (bases_length es n) wf.few
    refine ⟨_, rfl, p, dx, _, rfl, hi1, no1 _ nB.1 nB.2.1 nB.2.2, _, rfl, p, es, n, rfl, Tw.b1, hn, fun L H1 s1 hLn hL => ⟨L, rfl, ⟨_, .inl (.inl hL)⟩, fun D hD => ?_⟩⟩
    have Tw1 := Tw.same s1
    refine lc_pure walk_list (((bases es n).map (rho ps)).map V.str) (by simp) (by simp; omega) (Same.refl H1) hD (fun _ s => s.seq (.inl (.inl hL))) yAt_same ?_ ?_
    · rintro i y H0 H' Z hi s0 ⟨rfl, hy⟩ hZ
      rw [List.getElem?_map] at hy
      obtain ⟨x, hx, rfl⟩ := Option.map_eq_some_iff.mp hy
      have hxn : x ∈ names es := bases_in wf hn (List.mem_of_getElem? hx)
      refine ⟨rfl, _, rfl, _, rfl, d, _, rfl, (Tw1.same s0).get hxn, hZ _ _ ?_ (Same.refl _)⟩
      rw [List.getElem?_map, List.getElem?_map, hx]
      rfl
    intro H2 s2 hD2
    have Tw2 := Tw1.same s2
    have s02 := s1.trans s2
    refine ⟨_, rfl, p2, dx2, _, rfl, s02 _ _ hi2, no2 _ nB.1 nB.2.1 nB.2.2, _, rfl, _, rfl, d, _, rfl, Tw2.get hn, p2, es2, rho ps n, rfl, Tw2.b2, hn2, fun L2 H3 s3 hL2n hL2 => ?_⟩
    have Tw3 := Tw2.same s3
    have s03 := s02.trans s3
    rw [Tw.S.bs n hn] at hL2
    have lay : Lay (.list (((bases es n).map (rho ps)).map PyData.str)) 1 := lay_lst (lay_map fun x hx => by
      obtain ⟨y, hy, rfl⟩ := List.mem_map.mp hx
      exact lay_name wf2 (Tw.ns y (bases_in wf hn hy)))
    refine ⟨.list (((bases es n).map (rho ps)).map PyData.str), .list (((bases es n).map (rho ps)).map PyData.str), .lst (.inl (.inl (s3 _ _ hD2))) (DpAll.strs _), .lst (.inl (.inl hL2)) (DpAll.strs _), lay.shaped (by decide), lay.shaped (by decide), _, rfl, ?_⟩
    rw [SeqAt.eqv_refl _ lay.1]
    refine iteF ⟨three_le, fun q hq => ?_⟩
    have sq := same_new (o := .lst (sides.map V.str)) hq
    refine ⟨q, rfl, ⟨sides.map V.str, .inl (.inl upd_same)⟩, for_it walk_list (fun j σ H' => ∃ r5 r6 r7 : Option V, σ = [some (.ref p), some (.ref p2), some (.ref d), some (.str n), none, r5, r6, r7] ∧ Same H H' ∧ H' q = some (.lst (sides.map V.str)))
      ⟨_, _, _, rfl, s03.trans sq, upd_same⟩ (fun j σ H' _ ⟨_, _, _, _, _, h⟩ => .inl (.inl h)) ?_ ?_⟩
    · rintro j x σ H4 H4' hj ⟨r5, r6, r7, rfl, s4, hq4⟩ ⟨rfl, hx⟩
      rw [List.getElem?_map] at hx
      obtain ⟨z, hz, rfl⟩ := Option.map_eq_some_iff.mp hx
      have hzs : z ∈ sides := List.mem_of_getElem? hz
      have Tw4 := Tw.same s4
      refine ⟨_, rfl, p, dx, _, rfl, s4 _ _ hi1, no1 _ nM.1 nM.2.1 nM.2.2, _, rfl, _, rfl, p, es, n, z, rfl, Tw4.b1, hn, hzs, fun H5 v1 s5 hv1 => ?_⟩
      have Tw5 := Tw4.same s5
      have s05 := s4.trans s5
      refine ⟨_, rfl, p2, dx2, _, rfl, s05 _ _ hi2, no2 _ nM.1 nM.2.1 nM.2.2, _, rfl, _, rfl, d, _, rfl, Tw5.get hn, _, rfl, p2, es2, rho ps n, z, rfl, Tw5.b2, hn2, hzs, fun H6 v2 s6 hv2 => ⟨_, _, rfl, ?_⟩⟩
      have Tw6 := Tw5.same s6
      have s06 := s05.trans s6
      have hq6 := (s5.trans s6) _ _ hq4
      rw [methF_ren wf Tw.R Tw.S hn] at hv2
      cases e : methF es n z with
      | none =>
        rw [e] at hv1 hv2
        cases hv1
        cases hv2
        refine ⟨_, rfl, rfl, _, rfl, rfl, .bool true, .bool true, .bl true, .bl true, rfl, rfl, _, rfl, iteF ?_⟩
        refine ⟨_, rfl, rfl, _, rfl, iteF (iteF ?_)⟩
        refine ⟨_, rfl, rfl, _, rfl, iteF (iteF ?_)⟩
        exact ⟨_, _, _, rfl, s06, hq6⟩
      | some hm =>
        obtain ⟨h, mt⟩ := hm
        rw [e] at hv1 hv2
        have hh : h ∈ names es := bases_in wf hn (findM_in wf Tw.R Tw.S (p := (h, mt)) (by unfold methF at e; exact e))
        obtain ⟨b, c, rfl, hb, hc⟩ := hv1
        obtain ⟨b2, c2, rfl, hb2, hc2⟩ := hv2
        have hb6 := s6 _ _ hb
        obtain ⟨_, cs, ec, hct, hcs⟩ := Dp.tup_of (Dp.same s6 hc)
        cases ec
        obtain ⟨_, cs2, ec2, hct2, hcs2⟩ := Dp.tup_of hc2
        cases ec2
        have hl1 : cs.length = mt.cases.length := DpAll.map_len hcs
        have hl2 : cs2.length = mt.cases.length := by
          have := DpAll.map_len hcs2
          rw [this]
          unfold renM
          rw [List.length_map]
        have mok : MethOk (names es) mt ∧ mt.ending ∈ [sDec, sSuper] := by
          have hown : ∃ y, ownOf es y z = some mt := by
            obtain ⟨pre, t, h1, h2, h3⟩ := findM_split e
            exact ⟨_, h3⟩
          obtain ⟨y, hy⟩ := hown
          have mo : MethOk (names es) mt := own_ok wf Tw.R Tw.S hy
          refine ⟨mo, ?_⟩
          rcases mo.ed with h | h
          · rw [h]; exact List.mem_cons_self
          · rw [h]; exact List.mem_cons_of_mem _ List.mem_cons_self
        have layE : Lay (.str mt.ending) 0 := lay_str (word_lay _ (by
          rcases List.mem_cons.mp mok.2 with h | h
          · rw [h]; decide +kernel
          · rw [List.mem_singleton.mp h]; decide +kernel))
        have lay2 : Lay (.tuple [.str (rho ps h), .str mt.ending]) 1 := lay_tup (lay_all2 (lay_name wf2 (Tw.ns h hh)) layE)
        refine ⟨_, rfl, rfl, _, rfl, rfl, .bool false, .bool false, .bl false, .bl false, rfl, rfl, _, rfl, iteF ?_⟩
        refine ⟨_, rfl, rfl, _, rfl, iteT ?_⟩
        refine ⟨_, rfl, _, rfl, b, _, 0, _, rfl, rfl, .inl (.inl hb6), rfl, d, _, rfl, Tw6.get hh, _, rfl, b, _, 2, _, rfl, rfl, .inl (.inl hb6), rfl, two_le, fun t1 ht1 => ?_⟩
        have st1 := same_new (o := .tup [V.str (rho ps h), V.str mt.ending]) ht1
        have hb7 := st1 _ _ hb2
        refine ⟨_, rfl, b2, _, 0, _, rfl, rfl, .inl (.inl hb7), rfl, _, rfl, b2, _, 2, _, rfl, rfl, .inl (.inl hb7), rfl, two_le, fun t2 ht2 => ?_⟩
        have st2 := same_new (o := .tup [V.str (rho ps h), V.str mt.ending]) ht2
        refine ⟨.tuple [.str (rho ps h), .str mt.ending], .tuple [.str (rho ps h), .str mt.ending], .tup (.inl (.inl (st2 _ _ upd_same))) (.cons (.str _) (.cons (.str _) .nil)), .tup (.inl (.inl upd_same)) (.cons (.str _) (.cons (.str _) .nil)), lay2.shaped (by decide), lay2.shaped (by decide), _, rfl, ?_⟩
        rw [SeqAt.eqv_refl _ lay2.1]
        have st := st1.trans st2
        refine iteF ⟨_, rfl, rfl, _, rfl, iteT ?_⟩
        have hb8 := st _ _ hb6
        have hb9 := st2 _ _ hb7
        refine ⟨_, rfl, b, _, 1, _, rfl, rfl, .inl (.inl hb8), rfl, _, cs.length, rfl, .inr ⟨cs, Same.seqT st hct, rfl⟩, _, rfl, b2, _, 1, _, rfl, rfl, .inl (.inl hb9), rfl, _, cs2.length, rfl, .inr ⟨cs2, Same.seqT st hct2, rfl⟩, ?_⟩
        rw [hl1, hl2]
        refine ⟨.int (mt.cases.length : Nat), .int (mt.cases.length : Nat), .int _, .int _, (lay_int _).shaped (by decide), (lay_int _).shaped (by decide), _, rfl, ?_⟩
        rw [SeqAt.eqv_refl _ rfl]
        exact iteF ⟨_, _, _, rfl, s06.trans st, st _ _ hq6⟩
    · rintro σ H4 ⟨r5, r6, r7, rfl, s4, hq4⟩
      exact k H4 s4
end
end K11
set_option Elab.async false
set_option linter.all false
set_option maxRecDepth 100000
set_option maxHeartbeats 4000000
/-! The walks: the law. -/
namespace K11
open PySem PySem.Spec PyProof.Rows L2
theorem boot_max : bootBuiltins "max" = some (.builtin "max") := by decide +kernel
theorem boot_min : bootBuiltins "min" = some (.builtin "min") := by decide +kernel
section
variable {P : Program} {w : World} {K : PySem.W.Frag} {mg : Str → Option Value} {base : Heap} {C : Addr}
theorem seqL_kept {H H1 H' : Hp} {l b : Addr} {xs : List V} (h : SqL K H l xs) (hb : H b = none) (s : Same H H1) (c : But b H1 H') : SqL K H' l xs := by
  rcases h with (h | ⟨o, h⟩) | h
  · exact .inl (.inl (c _ _ (ne_of_none h hb) (s _ _ h)))
  · exact .inl (.inr ⟨o, c _ _ (ne_of_none h hb) (s _ _ h)⟩)
  · exact .inr h
theorem BagAt.neO {H : Hp} {b a : Addr} {o : HO} (h : BagAt H b) (e : H a = some o) (n : ∀ xs, o ≠ .lst xs) : a ≠ b := fun z => by
  obtain ⟨d, m, c, h, _⟩ := h
  rw [z, h] at e
  exact n _ (Option.some.inj e).symm
theorem ents_tup (es : List Ent) : ∀ x ∈ es.map dEnt, ∃ ys, x = PyData.tuple ys := fun x hx => by
  obtain ⟨e, _, rfl⟩ := List.mem_map.mp hx
  exact ⟨_, rfl⟩
theorem RowsAt.bag {H H' : Hp} {r b : Addr} {es : List Ent} (h : RowsAt K H r es) (B : BagAt H b) (c : But b H H') : RowsAt K H' r es := by
  obtain ⟨xs, h1, h2⟩ := h
  exact ⟨xs, c _ _ (B.neD h1 h2 (ents_tup es)) h1, DpAll.but B.noT c (noLs_map noL_ent _) h2⟩
theorem BookAt.but {H H' : Hp} {p b : Addr} {es : List Ent} (h : BookAt K C H p es) (B : BagAt H b) (c : But b H H') : BookAt K C H' p es := by
  obtain ⟨wf, dx, r, pa, ow, kvs, h1, h2, h3, h4, h5⟩ := h
  refine ⟨wf, dx, r, pa, ow, kvs, c _ _ (B.neO h1 fun xs z => by cases z) h1, h2.bag B c, c _ _ (B.neO h3 fun xs z => by cases z) h3, c _ _ (B.neO h4 fun xs z => by cases z) h4, fun n z => ?_⟩
  rcases h5 n z with q | ⟨m, v, e1, e2, e3⟩
  · exact .inl q
  · exact .inr ⟨m, v, e1, e2, Dp.but B.noT c (noL_meth _) e3⟩
def spLaw (K : PySem.W.Frag) : Sp := fun vs H Q _ => ∃ (l : Addr) (ns : List Int), vs = [.ref l] ∧ SqL K H l (ns.map V.int) ∧ ns.length ≤ 63 ∧ ∀ H', Q (.bl true) H'
abbrev NLaw : List Str := ["_law_script", "_law_at", "_law_bag_here", "_law_turn", "_law_entries_here", "_law_names_here", "_law_book", "_law_other", "_law_left", "_law_right", "_law_way", "_law_due", "_law_entry"]
theorem scLaw : FnScope NLaw ["_law_script"] (defScope sLaw) := ⟨rfl, rfl, rfl, by decide +kernel, rfl, by decide +kernel, by decide +kernel⟩
/-- all that the law calls -/
structure Calls (P : Program) (w : World) (K : PySem.W.Frag) (mg : Str → Option Value) (base : Heap) (C : Addr) : Prop where
  bag : Cal P w K mg base "_law_bag" 1 ["_law_script", "_law_at"] (spBag K)
  ents : Cal P w K mg base "_law_entries" 4 ["_law_bag_here", "_law_most"] (spLEnts K)
  map : Cal P w K mg base "_law_map" 2 ["_law_bag_here", "_law_names_here"] (spMap K)
  ren : Cal P w K mg base "_law_renamed" 1 ["_law_entries_here", "_law_names_here"] (spRen K)
  ord : Cal P w K mg base "_law_ordered" 2 ["_law_bag_here", "_law_entries_here"] (spOrd K)
  moved : Cal P w K mg base "_law_moved" 1 ["_law_found", "_law_names_here"] (spMoved K)
  cls : Cal P w K mg base "_law_class_right" 5 ["_law_book", "_law_other", "_law_names_here", "_law_name"] (spClass K C)
  prior : Cal P w K mg base "is_prior" 6 ["book", "left", "right"] (spPrior K C)
  init : ICal P w K mg base C
  classes : MCal P w K mg base C "classes" 1 ["self"] (spClasses K C)
  answer : ACal P w K mg base C
theorem answerL_len (es : List Ent) : ∀ l : List Ord, (answerL es l).1.length ≤ l.length
  | [] => Nat.le_refl _
  | (n, s, o) :: t => by
    have ih := answerL_len es t
    cases e1 : homeF es n s with
    | none =>
      rw [answerL_none e1]
      exact Nat.le_succ_of_le ih
    | some hh =>
      cases e2 : askF es n s o with
      | none =>
        rw [answerL_pass e1 e2]
        exact Nat.succ_le_succ ih
      | some p =>
        obtain ⟨h, i, r⟩ := p
        rw [answerL_hit e1 e2]
        exact Nat.succ_le_succ (Nat.zero_le _)
theorem orderF_len (es : List Ent) (l r : Str) (way : Bool) : (orderF es l r way).length ≤ 3 := by
  unfold orderF
  rw [List.length_append]
  have e1 : (if way = true then [(l, sInp, r)] else [] : List Ord).length ≤ 1 := by split <;> simp
  have e2 : (if priorF es l r = true then [(r, sRef, l), (l, sFwd, r)] else if l = r then [(l, sFwd, r)] else [(l, sFwd, r), (r, sRef, l)] : List Ord).length ≤ 2 := by
    split
    · simp
    · split <;> simp
  omega
theorem answerF_len (es : List Ent) (l r : Str) (way : Bool) : (answerF es l r way).1.length ≤ 100 := Nat.le_trans (answerL_len es _) (Nat.le_trans (orderF_len es l r way) (by decide))
theorem fn_by {x : Str} {st : Stmt} {N ps : List Str} {k : Nat} {sp : Sp} {f : Addr} {fd : FuncData} (F : FnP K x st f fd) (S : FnScope N ps (defScope st)) (len : ∀ vs H Q E, sp vs H Q E → vs.length = ps.length)
    (hbody : ∀ (cdv : Value) (A : Around) (outer : List Env) (s : Shared) (H : Hp) (vs : List V) (Q : VK) (E : XK), Room k (A.deeper (envOfC x (defScope st) s.heap.objs.size f cdv)) → sp vs H Q E →
      ∃ t, PSs (cxOf CX0 P w K mg base N x (defScope st) f cdv A outer s H E).nox (defBody st) t ∧ t { nx := fun _ H' => Q .non H', rt := Q } (start N vs) H) : FnOk P w K mg base CX0 (k + 1) f fd ps sp :=
  F.ok S len fun cdv A outer s H vs Q E hr h => by
    obtain ⟨t, h1, h2⟩ := hbody cdv A outer s H vs Q E hr h
    exact ⟨t, h1.nox, h2⟩
theorem ok_law {f : Addr} {fd : FuncData} (F : FnP K "law" sLaw f fd) (T : Txt K mg) (B : Bok K C) (c : Calls P w K mg base C) : FnOk P w K mg base CX0 9 f fd ["_law_script"] (spLaw K) := by
  refine fn_by F scLaw (fun vs H Q E h => ?_) (fun cdv A outer s H vs Q E hr h => ?_)
  · obtain ⟨l, ns, rfl, _⟩ := h
    rfl
  · obtain ⟨l, ns, rfl, hS, hlen, k⟩ := h
    have hu := hu_of hr
    have hr1 : Room 1 _ := hr.mono (by decide)
    have hr2 : Room 2 _ := hr.mono (by decide)
    have hr4 : Room 4 _ := hr.mono (by decide)
    have hr5 : Room 5 _ := hr.mono (by decide)
    have hr6 : Room 6 _ := hr.mono (by decide)
    have hr7 : Room 7 _ := hr.mono (by decide)
    refine ⟨_, pss_cons (ps_for PassesOwn.never rfl (pi_range1 (by rfl) T.range (pa_cons (pe_callB (call_max2 rfl) (by rfl) T.max boot_max (pa_cons pe_int (pa_cons (pe_callB (call_min2 rfl) (by rfl) T.min boot_min (pa_cons pe_int (pa_cons (pe_callB call_len (by rfl) T.len boot_len (pa_cons (pv 0) pa_nil)) pa_nil))) pa_nil))) pa_nil))
          (pg_name (i := 1) scLaw.nd rfl (Or.inl rfl))
        (pss_cons (ps_set (i := 2) scLaw.nd rfl (Or.inl rfl) (pe_cal c.bag hr1 (pa_cons (pv 0) (pa_cons (pv 1) pa_nil))))
        (pss_one (ps_for PassesOwn.never rfl (pi_range1 (by rfl) T.range (pa_cons pe_int pa_nil)) (pg_name (i := 3) scLaw.nd rfl (Or.inl rfl))
          (pss_cons (ps_set (i := 4) scLaw.nd rfl (Or.inl rfl) (pe_cal c.ents hr4 (pa_cons (pv 2) (pa_cons pe_int pa_nil))))
          (pss_cons (ps_set (i := 5) scLaw.nd rfl (Or.inl rfl) (pe_cal c.map hr2 (pa_cons (pv 2) (pa_cons (pe_lc (own := [("_law_entry", 12)]) (g := gName 12) (tt := tYes) (te := tOp (rIxT K) (tVar 12) (tC (.int 0))) rfl scLaw.nd (pi_list (pv 4)) (blkOk_by (N := NLaw) (sc := defScope sLaw) (by decide +kernel))
              (fun _ _ _ _ _ => pg_name (i := 12) scLaw.nd rfl (Or.inl rfl)) (fun _ _ _ _ _ => pts_nil) (fun _ _ _ _ _ => pe_ix ix_tup (pv 12) pe_int (fun _ _ => rfl))) pa_nil))))
          (pss_cons (ps_par (i := 6) (j := 7) (by rfl) scLaw.nd rfl rfl (by decide) rfl rfl (pa_cons (pe_new c.init hr7 (pa_cons (pv 4) pa_nil)) (pa_cons (pe_new c.init hr7 (pa_cons (pe_cal c.ord hr2 (pa_cons (pv 2) (pa_cons (pe_cal c.ren hr1 (pa_cons (pv 4) (pa_cons (pv 5) pa_nil))) pa_nil))) pa_nil)) pa_nil)) (by rfl))
          (pss_one (ps_for PassesOwn.never rfl (pi_list (pe_mcal0 c.classes B.cl hr1 (pv 6))) (pg_name (i := 8) scLaw.nd rfl (Or.inl rfl))
            (pss_cons (ps_if (pt_not (pt_val (pe_cal c.cls hr5 (pa_cons (pv 6) (pa_cons (pv 7) (pa_cons (pv 5) (pa_cons (pv 8) pa_nil))))))) (pss_one (ps_ret pe_bl)) pss_nil)
            (pss_one (ps_for PassesOwn.never rfl (pi_list (pe_mcal0 c.classes B.cl hr1 (pv 6))) (pg_name (i := 9) scLaw.nd rfl (Or.inl rfl))
              (pss_cons (ps_for PassesOwn.never rfl (pi_list (pe_lst (pa_cons pe_bl (pa_cons pe_bl pa_nil)))) (pg_name (i := 10) scLaw.nd rfl (Or.inl rfl))
                (pss_cons (ps_set (i := 11) scLaw.nd rfl (Or.inl rfl) (pe_cal c.moved hr1 (pa_cons (pe_answer c.answer hr (pa_cons (pv 6) (pa_cons (pv 8) (pa_cons (pv 9) pa_nil))) (pk_cons (pv 10) pk_nil)) (pa_cons (pv 5) pa_nil))))
                (pss_one (ps_if (pt_cmpR (op_neD hr.units) (pe_answer c.answer hr (pa_cons (pv 7) (pa_cons (pe_dget hu (pv 5) (pv 8) (fun _ _ => rfl)) (pa_cons (pe_dget hu (pv 5) (pv 9) (fun _ _ => rfl)) pa_nil))) (pk_cons (pv 10) pk_nil)) (pv 11) (nomark _)) (pss_one (ps_ret pe_bl)) pss_nil))))
              (pss_one (ps_if (pt_cmpR (op_neD hr.units) (pe_cal c.prior hr6 (pa_cons (pv 6) (pa_cons (pv 8) (pa_cons (pv 9) pa_nil)))) (pe_cal c.prior hr6 (pa_cons (pv 7) (pa_cons (pe_dget hu (pv 5) (pv 8) (fun _ _ => rfl)) (pa_cons (pe_dget hu (pv 5) (pv 9) (fun _ _ => rfl)) pa_nil)))) (nomark _)) (pss_one (ps_ret pe_bl)) pss_nil)))))))))))))))
      (pss_one (ps_ret pe_bl)), ?_⟩
    have cnt : ∃ n : Nat, n ≤ 2 ∧ (if (if ((ns.map V.int).length : Int) < 2 then ((ns.map V.int).length : Int) else 2) > 1 then (if ((ns.map V.int).length : Int) < 2 then ((ns.map V.int).length : Int) else 2) else 1) = (n : Int) := by
      rw [List.length_map]
      by_cases h1 : (ns.length : Int) < 2
      · rw [if_pos h1]
        by_cases h2 : (ns.length : Int) > 1
        · rw [if_pos h2]
          exact ⟨ns.length, by omega, rfl⟩
        · rw [if_neg h2]
          exact ⟨1, by omega, rfl⟩
      · rw [if_neg h1, if_pos (by decide)]
        exact ⟨2, by omega, rfl⟩
    obtain ⟨n, hn2, en⟩ := cnt
    refine ⟨_, rfl, _, (ns.map V.int).length, rfl, .inl ⟨_, hS, rfl⟩, _, _, rfl, _, _, rfl, (n : Int), congrArg (fun t : Int => [V.int t]) en, by omega, by omega, ?_⟩
    refine for_it walk_range (fun i σ H' => ∃ r1 r2 r3 r4 r5 r6 r7 r8 r9 r10 r11 : Option V, σ = [some (.ref l), r1, r2, r3, r4, r5, r6, r7, r8, r9, r10, r11, none] ∧ SqL K H' l (ns.map V.int))
      ⟨_, _, _, _, _, _, _, _, _, _, _, rfl, hS⟩ (fun _ _ _ _ _ => trivial) ?_ (fun σ H' _ => k H')
    rintro i x σ H0 H0' hi ⟨r1, r2, r3, r4, r5, r6, r7, r8, r9, r10, r11, rfl, hS0⟩ ⟨rfl, rfl⟩
    have hi2 : i < n := hi
    refine ⟨_, rfl, _, rfl, l, ns, i, congrArg (fun t : Int => [V.ref l, V.int t]) (Int.zero_add _), hS0, by omega, fun b H1 s1 hbn B1 => ?_⟩
    refine ⟨3, rfl, by decide, by decide, ?_⟩
    refine for_it walk_range (fun j σ H' => ∃ r3 r4 r5 r6 r7 r8 r9 r10 r11 : Option V, σ = [some (.ref l), some (.int (0 + (i : Nat))), some (.ref b), r3, r4, r5, r6, r7, r8, r9, r10, r11, none] ∧ But b H1 H' ∧ BagAt H' b)
      ⟨_, _, _, _, _, _, _, _, _, rfl, But.refl _ _, B1⟩ (fun _ _ _ _ _ => trivial) ?_ (fun σ H' ⟨q3, q4, q5, q6, q7, q8, q9, q10, q11, e, b', B'⟩ => ⟨_, _, _, _, _, _, _, _, _, _, _, e, seqL_kept hS0 hbn s1 b'⟩)
    rintro j x σ H2 H2' hj ⟨r3, r4, r5, r6, r7, r8, r9, r10, r11, rfl, b2, B2⟩ ⟨rfl, rfl⟩
    -- the entries
    refine ⟨_, rfl, b, rfl, B2, fun r es H3 b3 B3 hR3 wf hrb hrn => ?_⟩
    obtain ⟨xs, hr3, hxs3⟩ := id hR3
    have hxl : xs.length = es.length := DpAll.map_len hxs3
    have hfew := wf.few
    -- the names
    refine ⟨_, rfl, _, rfl, r, rfl, ⟨xs, .inl (.inl hr3)⟩, fun D hD => ?_⟩
    refine lc_pure walk_list ((names es).map V.str) (by rw [names, List.length_map, List.length_map, hxl]) (by omega) (Same.refl H3) hD (fun _ s => s.seq (.inl (.inl hr3))) yAt_same ?_ ?_
    · rintro q y Ha Hb Z hq sa ⟨rfl, hy⟩ hZ
      obtain ⟨e, he, hd⟩ := DpAll.map_get hxs3 hy
      obtain ⟨a, m', rfl, ht, _⟩ := ent_of (Dp.same sa hd)
      refine ⟨rfl, _, rfl, a, _, 0, _, rfl, rfl, ht, rfl, hZ _ _ ?_ (Same.refl _)⟩
      unfold names
      rw [List.map_map, List.getElem?_map, he]
      rfl
    intro H4 s4 hD4
    have B4 := B3.same s4
    refine ⟨b, D, names es, rfl, B4, hD4, wf.nd, ?_, fun d ps H5 b5 B5 hd5 M => ?_⟩
    · rw [names, List.length_map]
      exact hfew
    have hR5 := (hR3.same s4).bag B4 b5
    have R := rho_ren wf M
    -- the books
    refine ⟨_, rfl, r, es, rfl, hR5, wf, fun p H6 s6 hpn bk6 => ?_⟩
    refine ⟨_, rfl, _, rfl, _, rfl, r, d, es, ps, rfl, hR5.same s6, s6 _ _ hd5, M, wf, fun r2 H7 s7 hr2n hR7 => ?_⟩
    have B7 := (B5.same s6).same s7
    refine ⟨b, r2, _, rfl, B7, hR7, wf.ren R, fun rg gs H8 b8 B8 hrgn hR8 pm bf => ?_⟩
    have wf2 := (wf.ren R).perm pm bf
    refine ⟨rg, gs, rfl, hR8, wf2, fun p2 H9 s9 hp2n bk9 => ⟨_, _, rfl, ?_⟩⟩
    have hd7 := (s6.trans s7) _ _ hd5
    have Tw : Two K C H9 p p2 d es gs ps := ⟨((bk6.same s7).but B7 b8).same s9, bk9, s9 _ _ (b8 _ _ (B7.neO hd7 fun xs z => by cases z) hd7), M, R, sim wf R pm, fun x hx => by
      have : (names gs).Perm (names (es.map (renE (rho ps)))) := pm.map Ent.name
      rw [names_ren] at this
      exact this.symm.subset (List.mem_map_of_mem hx)⟩
    have B9 := B8.same s9
    have b9 : But b H1 H9 := ((((((b2.trans b3).trans (But.of s4)).trans b5).trans (But.of s6)).trans (But.of s7)).trans b8).trans (But.of s9)
    obtain ⟨dx, f1, hp9, no1⟩ := Tw.b1.ins
    have nC : ¬ ("classes" : Str) = "rows" ∧ ¬ ("classes" : Str) = "parents" ∧ ¬ ("classes" : Str) = "own" := by decide +kernel
    -- the classes on the left
    refine ⟨_, rfl, p, dx, _, rfl, hp9, no1 _ nC.1 nC.2.1 nC.2.2, p, es, rfl, Tw.b1, fun L H10 s10 hLn hL => ⟨L, rfl, ⟨_, .inl (.inl hL)⟩, ?_⟩⟩
    refine for_it walk_list (fun i1 σ H' => ∃ r8 r9 r10 r11 : Option V, σ = [some (.ref l), some (.int (0 + (i : Nat))), some (.ref b), some (.int (0 + (j : Nat))), some (.ref r), some (.ref d), some (.ref p), some (.ref p2), r8, r9, r10, r11, none] ∧ Same H10 H')
      ⟨_, _, _, _, rfl, Same.refl _⟩ (fun _ σ H' _ ⟨_, _, _, _, _, h⟩ => .inl (.inl (h _ _ hL))) ?_ (fun σ H' ⟨_, _, _, _, e, h⟩ => ⟨_, _, _, _, _, _, _, _, _, e, b9.trans (But.of (s10.trans h)), B9.same (s10.trans h)⟩)
    rintro i1 x σ H11 H11' hi1 ⟨r8, r9, r10, r11, rfl, s11⟩ ⟨rfl, hx⟩
    rw [List.getElem?_map] at hx
    obtain ⟨cl, hcl, rfl⟩ := Option.map_eq_some_iff.mp hx
    have hclin : cl ∈ names es := List.mem_of_getElem? hcl
    have Tw11 := Tw.same (s10.trans s11)
    refine ⟨_, rfl, _, rfl, _, rfl, _, rfl, p, p2, d, es, gs, ps, cl, rfl, Tw11, hclin, fun H12 s12 => ⟨_, rfl, iteF ?_⟩⟩
    have Tw12 := Tw11.same s12
    have hp12 := (s10.trans (s11.trans s12)) _ _ hp9
    -- the classes on the right
    refine ⟨_, rfl, p, dx, _, rfl, hp12, no1 _ nC.1 nC.2.1 nC.2.2, p, es, rfl, Tw12.b1, fun L2 H13 s13 hL2n hL2 => ⟨L2, rfl, ⟨_, .inl (.inl hL2)⟩, ?_⟩⟩
    refine for_it walk_list (fun i2 σ H' => ∃ r9 r10 r11 : Option V, σ = [some (.ref l), some (.int (0 + (i : Nat))), some (.ref b), some (.int (0 + (j : Nat))), some (.ref r), some (.ref d), some (.ref p), some (.ref p2), some (.str cl), r9, r10, r11, none] ∧ Same H13 H')
      ⟨_, _, _, rfl, Same.refl _⟩ (fun _ σ H' _ ⟨_, _, _, _, h⟩ => .inl (.inl (h _ _ hL2))) ?_ (fun σ H' ⟨_, _, _, e, h⟩ => ⟨_, _, _, _, e, (s11.trans s12).trans (s13.trans h)⟩)
    rintro i2 x σ H14 H14' hi2 ⟨r9, r10, r11, rfl, s14⟩ ⟨rfl, hx⟩
    rw [List.getElem?_map] at hx
    obtain ⟨cr, hcr, rfl⟩ := Option.map_eq_some_iff.mp hx
    have hcrin : cr ∈ names es := List.mem_of_getElem? hcr
    have Tw14 := Tw12.same (s13.trans s14)
    -- both ways
    refine ⟨two_le, fun W hW => ?_⟩
    have sW := same_new (o := .lst ([false, true].map V.bl)) hW
    refine ⟨W, rfl, ⟨_, .inl (.inl upd_same)⟩, for_it walk_list (fun i3 σ H' => ∃ r10 r11 : Option V, σ = [some (.ref l), some (.int (0 + (i : Nat))), some (.ref b), some (.int (0 + (j : Nat))), some (.ref r), some (.ref d), some (.ref p), some (.ref p2), some (.str cl), some (.str cr), r10, r11, none] ∧ Same H14' H' ∧ H' W = some (.lst ([false, true].map V.bl)))
      ⟨_, _, rfl, sW, upd_same⟩ (fun _ σ H' _ ⟨_, _, _, _, h⟩ => .inl (.inl h)) ?_ ?_⟩
    · rintro i3 x σ H15 H15' hi3 ⟨r10, r11, rfl, s15, hW15⟩ ⟨rfl, hx⟩
      have hx : ([false, true].map V.bl)[i3]? = some x := hx
      rw [List.getElem?_map] at hx
      obtain ⟨way, _, rfl⟩ := Option.map_eq_some_iff.mp hx
      have Tw15 := Tw14.same s15
      refine ⟨_, rfl, _, rfl, _, rfl, _, rfl, rfl, rfl, p, es, cl, cr, way, rfl, Tw15.b1, hclin, hcrin, fun v H16 s16 hv => ?_⟩
      have Tw16 := Tw15.same s16
      refine ⟨_, rfl, v, d, es, ps, answerF es cl cr way, rfl, hv, answerF_len es cl cr way, answerF_in wf hclin hcrin way, Tw16.d, M, fun v' H17 s17 hv' => ?_⟩
      have Tw17 := Tw16.same s17
      refine ⟨_, rfl, _, rfl, _, rfl, d, _, rfl, Tw17.get hclin, _, rfl, _, rfl, d, _, rfl, Tw17.get hcrin, _, rfl, rfl, rfl, p2, gs, rho ps cl, rho ps cr, way, rfl, Tw17.b2, Tw17.ns _ hclin, Tw17.ns _ hcrin, fun v2 H18 s18 hv2 => ⟨_, rfl, ?_⟩⟩
      have lay : Lay (dAns (answerF gs (rho ps cl) (rho ps cr) way)) 5 := lay_ans wf2 (answerF_in wf2 (Tw17.ns _ hclin) (Tw17.ns _ hcrin) way)
      have eA := answerF_ren wf R Tw.S wf.nsOk hclin hcrin way
      rw [← eA] at hv'
      refine ⟨dAns (answerF gs (rho ps cl) (rho ps cr) way), dAns (answerF gs (rho ps cl) (rho ps cr) way), hv2, Dp.same s18 hv', lay.shaped (by decide), lay.shaped (by decide), _, rfl, ?_⟩
      rw [SeqAt.eqv_refl _ lay.1]
      exact iteF ⟨_, _, rfl, s15.trans ((s16.trans s17).trans s18), ((s16.trans s17).trans s18) _ _ hW15⟩
    · rintro σ H15 ⟨r10, r11, rfl, s15, hW15⟩
      have Tw15 := Tw14.same s15
      refine ⟨_, rfl, _, rfl, _, rfl, p, es, cl, cr, rfl, Tw15.b1, hclin, hcrin, fun H16 s16 => ?_⟩
      have Tw16 := Tw15.same s16
      refine ⟨_, rfl, _, rfl, _, rfl, d, _, rfl, Tw16.get hclin, _, rfl, _, rfl, d, _, rfl, Tw16.get hcrin, p2, gs, rho ps cl, rho ps cr, rfl, Tw16.b2, Tw16.ns _ hclin, Tw16.ns _ hcrin, fun H17 s17 => ?_⟩
      rw [priorF_ren wf R Tw.S hclin hcrin]
      refine ⟨.bool (priorF es cl cr), .bool (priorF es cl cr), .bl _, .bl _, rfl, rfl, _, rfl, ?_⟩
      rw [SeqAt.eqv_refl _ rfl]
      exact iteF ⟨_, _, _, rfl, (s14.trans s15).trans (s16.trans s17)⟩
end
end K11
set_option Elab.async false
set_option linter.all false
set_option maxRecDepth 100000
set_option maxHeartbeats 4000000
/-! The end: what the head leaves gives all that the walks ask. -/
namespace K11
open PySem PySem.Spec PyProof.Rows L2
theorem glo_in {x : Str} (h : x ∈ gl1 ++ (gl2 ++ gl3)) : He.Fa.glo x ∈ fa := List.mem_append_left _ (List.mem_map_of_mem h)
theorem free_in {x : Str} (h : x ∈ fr) : He.Fa.free x ∈ fa := List.mem_append_right _ (List.mem_append_left _ (List.mem_map_of_mem h))
section
variable {P : Program} {w : World} {K : PySem.W.Frag} {h : Heap} {mg : Str → Option Value} {base : Heap}
theorem txt_of (X : K.In h) (G : h.Ns mainGlobals mg) (c : He.SaysD fa fn K) (e : ex K = true) : Txt K mg := by
  have glo : ∀ {x : Str}, x ∈ gl1 ++ (gl2 ++ gl3) → mg x = some (.ref (He.ga K x)) := fun hx => He.glo_ok X G (c.facts (glo_in hx))
  have free : ∀ {x : Str}, x ∈ fr → mg x = none := fun hx => He.free_ok X G (c.facts (free_in hx))
  unfold ex at e
  obtain ⟨e1, e2⟩ := Bool.and_eq_true_iff.mp e
  obtain ⟨e2, e3⟩ := Bool.and_eq_true_iff.mp e2
  unfold ex0 at e3
  obtain ⟨t1, e3⟩ := Bool.and_eq_true_iff.mp e3
  obtain ⟨t2, e3⟩ := Bool.and_eq_true_iff.mp e3
  obtain ⟨t3, t4⟩ := Bool.and_eq_true_iff.mp e3
  refine ⟨free (by decide +kernel), free (by decide +kernel), free (by decide +kernel), free (by decide +kernel), free (by decide +kernel), free (by decide +kernel), free (by decide +kernel), free (by decide +kernel), free (by decide +kernel), free (by decide +kernel), free (by decide +kernel), free (by decide +kernel),
    He.str_ok X G (c.fact 45 rfl), He.int_ok X G (c.fact 46 rfl), He.int_ok X G (c.fact 47 rfl), He.str_ok X G (c.fact 48 rfl), He.str_ok X G (c.fact 49 rfl), He.str_ok X G (c.fact 50 rfl), He.str_ok X G (c.fact 51 rfl), He.str_ok X G (c.fact 52 rfl), He.str_ok X G (c.fact 53 rfl),
    ⟨_, glo (by decide +kernel), fun H => He.tupB_ok t1 H⟩, ⟨_, glo (by decide +kernel), fun H => He.tupB_ok t2 H, ?_⟩, ⟨_, glo (by decide +kernel), fun H => He.tupB_ok t3 H⟩, ⟨_, glo (by decide +kernel), fun H => He.tupB_ok t4 H⟩⟩
  unfold bare at e1
  split at e1
  · next q => exact ⟨_, q, congrArg Value.type (of_decide_eq_true e1), rfl⟩
  · cases e1
theorem bok_of (c : He.SaysD fa fn K) (e : ex K = true) : Bok K (He.ga K "Book") := by
  refine ⟨He.cls_ok (c.fact 54 rfl), He.noat_ok (c.fact 55 rfl), He.noat_ok (c.fact 56 rfl), He.noat_ok (c.fact 57 rfl), ?_⟩
  unfold ex at e
  obtain ⟨e1, e2⟩ := Bool.and_eq_true_iff.mp e
  obtain ⟨e2, e3⟩ := Bool.and_eq_true_iff.mp e2
  unfold limB at e2
  obtain ⟨l1, e2⟩ := Bool.and_eq_true_iff.mp e2
  obtain ⟨l2, l3⟩ := Bool.and_eq_true_iff.mp e2
  refine ⟨.type "type", ?_⟩
  split at l3
  · next t q => exact ⟨.int 10 t, ⟨l1, of_decide_eq_true l2⟩, ⟨q, ⟨t, rfl⟩⟩⟩
  · cases l3
theorem calls_of (X : K.In h) (G : h.Ns mainGlobals mg) (c : He.SaysD fa fn K) (e : ex K = true) : Calls P w K mg base (He.ga K "Book") := by
  have glo : ∀ {x : Str}, x ∈ gl1 ++ (gl2 ++ gl3) → mg x = some (.ref (He.ga K x)) := fun hx => He.glo_ok X G (c.facts (glo_in hx))
  have T := txt_of X G c e
  have B := bok_of c e
  have fun_ : ∀ (i : Nat) (x : Str) (j : Nat), fn[i]? = some (dOf x j) → x ∈ gl1 ++ (gl2 ++ gl3) → FunAt K mg x (top j) := fun i x j hi hx => by
    obtain ⟨fd, F⟩ := c.def_ i hi
    exact ⟨_, fd, F, glo hx⟩
  have met_ : ∀ (i : Nat) (m q : Str) (j : Nat) (k : Nat), fn[i]? = some (dM m q j) → fa[k]? = some (.meth "Book" m) → MetAt K (He.ga K "Book") m q (inClass sBook j) := fun i m q j k hi hk => by
    obtain ⟨fd, F⟩ := c.def_ i hi
    exact ⟨_, fd, F, He.meth_ok (c.fact k hk)⟩
  have c_name0 : Cal P w K mg base "is_class_name" 1 ["value"] (spName K) := ok_name0 T (fun_ 0 _ _ rfl (by decide +kernel))
  have c_side : Cal P w K mg base "is_side" 1 ["value"] spSide := ok_side T (fun_ 1 _ _ rfl (by decide +kernel))
  have c_end : Cal P w K mg base "is_ending" 1 ["value"] spEnd := ok_end T (fun_ 2 _ _ rfl (by decide +kernel))
  have c_one : Cal P w K mg base "is_one_of" 1 ["value", "names"] (spOne K) := ok_one T (fun_ 3 _ _ rfl (by decide +kernel))
  have c_result : Cal P w K mg base "result_of" 1 ["result", "own", "other"] spResult := ok_result T (fun_ 4 _ _ rfl (by decide +kernel))
  have m_cont := ok_cont (P := P) (w := w) (base := base) T B (met_ 17 _ _ _ 58 rfl rfl)
  have m_check := ok_check (met_ 20 _ _ _ 61 rfl rfl) m_cont
  have m_bases := ok_bases B (met_ 21 _ _ _ 62 rfl rfl) m_check
  have m_belongs := ok_belongs B (met_ 22 _ _ _ 63 rfl rfl) m_check m_bases
  have m_method := ok_method B (met_ 23 _ _ _ 64 rfl rfl) c_side m_bases
  have m_classes := ok_classes (P := P) (w := w) (mg := mg) (base := base) B (met_ 19 _ _ _ 60 rfl rfl)
  have m_fill := ok_fill (P := P) (w := w) (base := base) T B (met_ 18 _ _ _ 59 rfl rfl)
  have c_ask := ok_ask T B (fun_ 5 _ _ rfl (by decide +kernel)) c_result m_bases m_belongs m_method
  have c_home := ok_home B (fun_ 6 _ _ rfl (by decide +kernel)) m_method
  have c_prior := ok_prior T B (fun_ 7 _ _ rfl (by decide +kernel)) m_check m_belongs c_home
  have c_order := ok_order T (fun_ 8 _ _ rfl (by decide +kernel)) c_prior
  have c_answer := ok_answer T B (by
    obtain ⟨fd, F⟩ := c.def_ 9 (d := dOf "answer" 25 [("inplace", .bl false)]) rfl
    exact ⟨_, fd, F, glo (by decide +kernel)⟩) c_order c_home c_ask
  have c_name := ok_name (fun_ 10 _ _ rfl (by decide +kernel)) c_name0
  have c_case := ok_case T (fun_ 11 _ _ rfl (by decide +kernel)) c_one
  have c_meth := ok_meth T (fun_ 12 _ _ rfl (by decide +kernel)) c_side c_end c_case
  have c_meths := ok_meths T (fun_ 13 _ _ rfl (by decide +kernel)) c_meth
  have c_head := ok_head T (fun_ 14 _ _ rfl (by decide +kernel)) c_name c_one
  have c_checkE := ok_checkE T (fun_ 15 _ _ rfl (by decide +kernel)) c_head c_meths
  have c_init := ok_init B (by
    obtain ⟨fd, F⟩ := c.def_ 16 (d := dM "__init__" "Book.__init__" 1 [.adr (He.dflAt ("Book", some "__init__") 0)]) rfl
    exact ⟨_, fd, _, F, He.mkr_ok (c.fact 65 rfl)⟩) (glo (by decide +kernel)) c_checkE m_fill
  have c_take : Cal P w K mg base "_law_take" 1 ["_law_bag_here", "_law_many"] (spTake K) := ok_take (fun_ 25 _ _ rfl (by decide +kernel))
  have c_lmeth := ok_lmeth T (fun_ 27 _ _ rfl (by decide +kernel)) c_take
  have c_lmeths := ok_lmeths T (fun_ 28 _ _ rfl (by decide +kernel)) c_take c_lmeth
  have c_names := ok_names T (fun_ 26 _ _ rfl (by decide +kernel)) c_take
  exact ⟨ok_bag T (fun_ 24 _ _ rfl (by decide +kernel)), ok_lents T (fun_ 29 _ _ rfl (by decide +kernel)) c_take c_names c_lmeths, ok_map T (fun_ 30 _ _ rfl (by decide +kernel)) c_take, ok_ren T (fun_ 31 _ _ rfl (by decide +kernel)),
    ok_ord T (fun_ 32 _ _ rfl (by decide +kernel)) c_take, ok_moved T (fun_ 33 _ _ rfl (by decide +kernel)), ok_class T B (fun_ 34 _ _ rfl (by decide +kernel)) m_bases m_method, c_prior, c_init, m_classes, c_answer⟩
theorem facts {f : Addr} (X : K.In h) (G : h.Ns mainGlobals mg) (hfa : mg ("law" : Str) = some (.ref f)) (c : He.SaysD fa fn K) (e : ex K = true) :
    ∃ fd : FuncData, (∀ (s : Shared) (v : Value), BindsTo s fd ⟨[v], []⟩ [("_law_script", v)]) ∧ ∀ base : Heap, K.In base → base.Ns mainGlobals mg → FnOk P w K mg base CX0 9 f fd ["_law_script"] (spLaw K) := by
  obtain ⟨fd, F⟩ := c.def_ 35 (d := dOf "law" 54) rfl
  have hl : mg ("law" : Str) = some (.ref (He.ga K "law")) := He.glo_ok X G (c.facts (glo_in (by decide +kernel)))
  have e2 := hfa.symm.trans hl
  cases e2
  have b := FunD.bindsA (ps := ["_law_script"]) F fun _ _ _ _ _ _ us hl => match us, hl with | [_], _ => rfl
  exact ⟨fd, fun s v => b s [v] rfl, fun base _ _ => ok_law F (txt_of X G c e) (bok_of c e) (calls_of X G c e)⟩
end
end K11
set_option Elab.async false
set_option linter.all false
set_option maxRecDepth 100000
set_option maxHeartbeats 0
/-! The claim. -/
open PySem PySem.W PySem.Calls PyProof.Rows
theorem PySem.Challenge.cw_eitherside_k11_whole_names_replaced_holds : PySem.Challenge.rw_eitherside_k11_whole_names_replaced.Holds := by
  w_on; o_law
  refine HandSHeadRun.head_any (r := OpenLaw.row PySem.Challenge.rw_eitherside_k11_whole_names_replaced) (q := view (OpenLaw.row PySem.Challenge.rw_eitherside_k11_whole_names_replaced).prog [54]) (H := K11.hk) (ob := K11.ob) (M := 4000) (loose := K11.loose) (d := HandSHeadRun.topDef (OpenLaw.row PySem.Challenge.rw_eitherside_k11_whole_names_replaced).prog 54) (kwd := []) K11.ob_eq
    (by kernel_rfl) (fun s => by kernel_rfl) K11.run (by kernel_rfl) (by kernel_rfl) (by kernel_rfl) (by rfl) (by first | assumption | decide +kernel) (by decide +kernel) ⟨rfl, rfl, rfl, rfl, rfl, by decide +kernel⟩ ?hw ?hc
  case hw => w_witness2
  case hc =>
    refine L2.walk_ofE (l := PySem.Challenge.rw_eitherside_k11_whole_names_replaced) (n := 63) (k := 9) (x := "_law_script") (CX := L2.CX0) rfl (by decide) (by kernel_rfl) ⟨rfl, by decide, by decide⟩ ?F (fun _ _ _ _ z => z)
    intro w mg fa h Y G hmg0
    obtain ⟨K, KX, c, e⟩ := Y
    have hmg : mg ("law" : PySem.Str) = some (.ref fa) := by
      have e : (HandSHeadRun.topDef (OpenLaw.row PySem.Challenge.rw_eitherside_k11_whole_names_replaced).prog 54).name = ("law" : PySem.Str) := by kernel_rfl
      rw [← e]
      exact hmg0
    obtain ⟨fd, hb, hF⟩ := K11.facts (P := (PySem.Challenge.rw_eitherside_k11_whole_names_replaced).prog) (w := w) KX G hmg c e
    exact ⟨K, fd, K11.spLaw K, KX, hb, fun H a ns hl _ hS => ⟨a, ns, rfl, hS, hl, fun _ => rfl⟩, hF⟩
