import PyProof.Rows.All
import PySem.Str
import Wide.All
import OpenK.AllK
import Wide.FinOn
import KE.KStateDown
import HandS.ForMost
import HandS.Exc
import HandS.TryOnly
import HandS.ExcInit
import HandS.ExcField
import HandS.Walk
import HandS.FStr
import HandS.DictComp
import HandS.ListItems
import HandS.Zip
import HandS.Style
import HandS.More
import HandS.TupMul
import HandS.IsInst
import HandS.WordsExc
import HandS.Defaults
import HandS.Conv
import HandS.NoneIn
import HandS.Small
import HandS.Flow
import HandS.SetKeys
import HandS.TupAny
import HandS.Head0
import HandS.Head1
import HandS.Head2
import HandS.HeadEnd
import HandS.HeadHook1
import HandS.HeadHook2
import PySem.Challenge.RW_tonguetower_k27_whole_kinds_of_all_parts
import HandS.Strs
import KE.KUnpackStar
import KE.GoesEnum
import KE.KDictZip
import KE.KDictItemsList
import KE.GoesEnumKw
import KE.KDictPairs
import PyProof.StrOps2
import HandS.Evl
set_option Elab.async false
set_option linter.all false
set_option maxRecDepth 100000
set_option maxHeartbeats 8000000
/-! The plain law: terms, what is wrong with a part, the parts in order, a term with another one put in a place. -/
namespace K27
open PySem

abbrev Sg := Str → Option Str
def Sg.up (r : Sg) (x k : Str) : Sg := fun y => if y = x then some k else r y
/-- a term, or a thing that is none (num, nm) -/
inductive Tm where
  | num (i : Int)
  | nm (x : Str)
  | name (x : Str)
  | call (f : Str) (args : List Tm)
  | use (t h : Str) (ths : List Tm)
inductive Item where
  | sign (s : Str)
  | lit
  | name (k : Str)
  | term (k : Str) (opens : List Nat)
structure Form where
  head : Str
  items : List Item
  kind : Str
structure Lang where
  name : Str
  forms : List Form
  heads : List (Str × List Str × Str)
def isT : Tm → Bool
  | .num _ => false
  | .nm _ => false
  | _ => true
def notSign : Item → Bool
  | .sign _ => false
  | _ => true
def Form.dues (f : Form) : List Item := f.items.filter notSign
def Lang.form (L : Lang) (h : Str) : Option Form := L.forms.find? fun f => decide (f.head = h)
def Lang.head (L : Lang) (f : Str) : Option (Str × List Str × Str) := L.heads.find? fun p => decide (p.1 = f)
/-- whether a thing is of the sort that an item is for -/
def fits : Item × Tm → Bool
  | (.lit, .num _) => true
  | (.name _, .nm _) => true
  | (.term _ _, t) => isT t
  | _ => false
def litOk : Item × Tm → Bool
  | (.lit, .num i) => decide (0 ≤ i) && decide (i ≤ 999)
  | _ => true
def bindOf : Item × Tm → Option (Str × Str)
  | (.name k, .nm x) => some (x, k)
  | _ => none
def binds (both : List (Item × Tm)) : List (Str × Str) := both.filterMap bindOf
def isNm (x : Str) : Bool := decide (1 ≤ x.length) && decide (x.length ≤ 6) && x.cps.toList.all fun c => decide (97 ≤ c) && decide (c ≤ 122)
def bindOk (ns : List (Str × Str)) : Bool := (ns.all fun p => isNm p.1) && decide ((ns.map (·.1)).Nodup)
abbrev Entry := Tm × Sg × Str
def slots (L : Lang) : Tm → List Item
  | .call f _ => match L.head f with
    | none => []
    | some p => p.2.1.map fun k => .term k []
  | .use _ h _ => match L.form h with
    | none => []
    | some f => f.dues
  | _ => []
def things : Tm → List Tm
  | .call _ a => a
  | .use _ _ a => a
  | _ => []
def both (L : Lang) (t : Tm) : List (Item × Tm) := (slots L t).zip (things t)
def opened (r : Sg) (ns : List (Str × Str)) (os : List Nat) : Sg :=
  os.foldl (fun r j => match ns[j]? with
    | some p => r.up p.1 p.2
    | none => r) r
def entryOf (r : Sg) (ns : List (Str × Str)) : Item × Tm → Option Entry
  | (.term k os, t) => some (t, opened r ns os, k)
  | _ => none
/-- the terms right in a term, with the names in sight and the kind due -/
def inner (L : Lang) (e : Entry) : List Entry := (both L e.1).filterMap (entryOf e.2.1 (binds (both L e.1)))
def wrongThings (L : Lang) (t : Tm) : Option Str :=
  if (slots L t).length ≠ (things t).length ∨ (both L t).all fits = false then some "many"
  else if (both L t).all litOk = false then some "lit"
  else if bindOk (binds (both L t)) = false then some "bind"
  else none
/-- the word by which a part is wrong, its own parts not looked at -/
def wrong (L : Lang) (e : Entry) : Option Str := match e.1 with
  | .name x => match e.2.1 x with
    | none => some "lost"
    | some k => if k = e.2.2 then none else some "kind"
  | .call f a => match L.head f with
    | none => some "call"
    | some p => match wrongThings L (.call f a) with
      | some w => some w
      | none => if p.2.2 = e.2.2 then none else some "kind"
  | .use t h a => if t = L.name then match L.form h with
      | none => some "form"
      | some f => match wrongThings L (.use t h a) with
        | some w => some w
        | none => if f.kind = e.2.2 then none else some "kind"
    else some "form"
  | _ => some "form"

theorem mem_things_lt {t x : Tm} (h : x ∈ things t) : sizeOf x < sizeOf t := by
  cases t with
  | num i => simp [things] at h
  | nm i => simp [things] at h
  | name i => simp [things] at h
  | call f a =>
    have := List.sizeOf_lt_of_mem (show x ∈ a from h)
    simp only [Tm.call.sizeOf_spec]
    omega
  | use t f a =>
    have := List.sizeOf_lt_of_mem (show x ∈ a from h)
    simp only [Tm.use.sizeOf_spec]
    omega
theorem mem_inner {L : Lang} {e x : Entry} (h : x ∈ inner L e) : x.1 ∈ things e.1 := by
  unfold inner at h
  obtain ⟨p, hp, he⟩ := List.mem_filterMap.mp h
  obtain ⟨i, t⟩ := p
  have hz := (List.of_mem_zip hp).2
  cases i with
  | term k os =>
    have e1 := Option.some.inj he
    rw [← e1]
    exact hz
  | sign s => cases he
  | lit => cases he
  | name k => cases he
def pre (L : Lang) (e : Entry) : List Entry := e :: (inner L e).attach.flatMap fun x => pre L x.1
termination_by sizeOf e.1
decreasing_by exact mem_things_lt (mem_inner x.2)
theorem pre_eq (L : Lang) (e : Entry) : pre L e = e :: (inner L e).flatMap (pre L) := by
  rw [pre]
  congr 1
  rw [List.flatMap_subtype (g := pre L) (by intros; rfl)]
  rw [List.unattach_attach]
mutual
def psize : Tm → Nat
  | .call _ a => 1 + psizeL a
  | .use _ _ a => 1 + psizeL a
  | _ => 1
def psizeL : List Tm → Nat
  | [] => 0
  | t :: r => (if isT t = true then psize t else 0) + psizeL r
end
mutual
def put : Tm → Nat → Tm → Tm
  | _, 0, o => o
  | .call f a, p + 1, o => .call f (putL a p o)
  | .use t h a, p + 1, o => .use t h (putL a p o)
  | t, _ + 1, _ => t
def putL : List Tm → Nat → Tm → List Tm
  | [], _, _ => []
  | t :: r, p, o => if isT t = true ∧ p < psize t then put t p o :: r else t :: putL r (p - (if isT t = true then psize t else 0)) o
end
inductive Good (L : Lang) : Entry → Prop
  | mk {e : Entry} : wrong L e = none → (∀ x ∈ inner L e, Good L x) → Good L e
theorem Good.ok {L : Lang} {e : Entry} (g : Good L e) : wrong L e = none := by cases g; assumption
theorem Good.sub {L : Lang} {e x : Entry} (g : Good L e) (h : x ∈ inner L e) : Good L x := by cases g with | mk a b => exact b x h
theorem Good.mem {L : Lang} {e : Entry} (g : Good L e) : ∀ x ∈ pre L e, Good L x := by
  induction g with
  | mk a b ih =>
    rename_i e
    intro x hx
    rw [pre_eq] at hx
    rcases List.mem_cons.mp hx with h | h
    · rw [h]; exact .mk a b
    · obtain ⟨y, hy, hxy⟩ := List.mem_flatMap.mp h
      exact ih y hy x hxy
/-- what is right of the things, of a part that isn't wrong -/
theorem things_of_ok {L : Lang} {e : Entry} (h : wrong L e = none) : (slots L e.1).length = (things e.1).length ∧ (both L e.1).all fits = true := by
  have key : ∀ t : Tm, wrongThings L t = none → (slots L t).length = (things t).length ∧ (both L t).all fits = true := by
    intro t h
    unfold wrongThings at h
    split at h
    · cases h
    · rename_i hn
      simp only [ne_eq, not_or, Decidable.not_not, Bool.not_eq_false] at hn
      exact hn
  obtain ⟨t, r, d⟩ := e
  cases t with
  | num i => exact ⟨rfl, rfl⟩
  | nm i => exact ⟨rfl, rfl⟩
  | name i => exact ⟨rfl, rfl⟩
  | call f a =>
    unfold wrong at h
    simp only at h
    split at h
    · cases h
    · split at h
      · cases h
      · rename_i hw
        exact key _ hw
  | use t f a =>
    unfold wrong at h
    simp only at h
    split at h
    · split at h
      · cases h
      · split at h
        · cases h
        · rename_i hw
          exact key _ hw
    · cases h
theorem isT_put {t o : Tm} {p : Nat} (h : isT t = true) (ho : isT o = true) : isT (put t p o) = true := by
  cases p with
  | zero => cases t <;> (unfold put; exact ho)
  | succ p => cases t <;> first | (unfold put; rfl) | cases h
theorem putL_length : ∀ (a : List Tm) (p : Nat) (o : Tm), (putL a p o).length = a.length
  | [], _, _ => by unfold putL; rfl
  | t :: r, p, o => by
    unfold putL
    split
    · rfl
    · rw [List.length_cons, List.length_cons, putL_length r]
def SameThing (s : Item) (x y : Tm) : Prop := fits (s, x) = fits (s, y) ∧ litOk (s, x) = litOk (s, y) ∧ bindOf (s, x) = bindOf (s, y)
theorem same_terms {s : Item} {t u : Tm} (h : isT t = true) (h2 : isT u = true) : SameThing s t u := by
  cases t <;> cases u <;> first | exact Bool.noConfusion h | exact Bool.noConfusion h2 | (cases s <;> exact ⟨rfl, rfl, rfl⟩)
theorem same_put {s : Item} {t o : Tm} {p : Nat} (h : isT t = true) (ho : isT o = true) : SameThing s t (put t p o) := same_terms h (isT_put h ho)
theorem putL_same : ∀ (ss : List Item) (a : List Tm) (p : Nat) (o : Tm), isT o = true → (ss.zip (putL a p o)).all fits = (ss.zip a).all fits ∧ (ss.zip (putL a p o)).all litOk = (ss.zip a).all litOk ∧ binds (ss.zip (putL a p o)) = binds (ss.zip a)
  | [], a, p, o, ho => by simp [binds]
  | s :: ss, [], p, o, ho => by unfold putL; simp [binds]
  | s :: ss, t :: r, p, o, ho => by
    unfold putL
    split
    · rename_i hc
      obtain ⟨h1, h2, h3⟩ := same_put (s := s) (p := p) hc.1 ho
      simp only [List.zip_cons_cons, List.all_cons, h1, h2, binds, List.filterMap_cons, h3, and_self]
    · obtain ⟨h1, h2, h3⟩ := putL_same ss r (p - (if isT t = true then psize t else 0)) o ho
      unfold binds at h3 ⊢
      simp only [List.zip_cons_cons, List.all_cons, h1, h2, List.filterMap_cons, h3, and_self]
theorem slots_put (L : Lang) (t : Tm) (p : Nat) (o : Tm) : slots L (put t (p + 1) o) = slots L t := by
  cases t <;> (unfold put; rfl)
theorem things_put (t : Tm) (p : Nat) (o : Tm) : things (put t (p + 1) o) = putL (things t) p o := by
  cases t with
  | call f a => simp only [put, things]
  | use t f a => simp only [put, things]
  | _ => simp only [put, things, putL]
theorem wrongThings_put (L : Lang) (t : Tm) (p : Nat) (o : Tm) (ho : isT o = true) : wrongThings L (put t (p + 1) o) = wrongThings L t := by
  have h := putL_same (slots L t) (things t) p o ho
  unfold wrongThings both
  rw [slots_put, things_put, putL_length, h.1, h.2.1, h.2.2]
theorem wrong_put (L : Lang) (t : Tm) (p : Nat) (o : Tm) (r : Sg × Str) (ho : isT o = true) : wrong L (put t (p + 1) o, r) = wrong L (t, r) := by
  have h := wrongThings_put L t p o ho
  cases t with
  | call f a =>
    have e : put (.call f a) (p + 1) o = .call f (putL a p o) := by simp only [put]
    rw [e] at h ⊢
    unfold wrong
    simp only [h]
  | use t f a =>
    have e : put (.use t f a) (p + 1) o = .use t f (putL a p o) := by simp only [put]
    rw [e] at h ⊢
    unfold wrong
    simp only [h]
  | _ => simp only [put]
/-- what is behind and ahead of a place -/
structure Cut (L : Lang) (l : List Entry) (p : Nat) (m : List Entry) : Prop where
  ex : ∃ A B, l = A ++ (m ++ B) ∧ A.length = p ∧ (∀ y ∈ A, wrong L y = none) ∧ ∀ y ∈ B, wrong L y = none
theorem psize_pos (t : Tm) : 0 < psize t := by
  cases t <;> (unfold psize; omega)
theorem pre_len_L {L : Lang} {r : Sg} {ns : List (Str × Str)} : ∀ (ss : List Item) (a : List Tm), ss.length = a.length → (ss.zip a).all fits = true →
    (∀ x ∈ (ss.zip a).filterMap (entryOf r ns), (pre L x).length = psize x.1) → (((ss.zip a).filterMap (entryOf r ns)).flatMap (pre L)).length = psizeL a
  | [], [], _, _, _ => by simp [psizeL]
  | [], _ :: _, h, _, _ => by cases h
  | _ :: _, [], h, _, _ => by cases h
  | s :: ss, t :: a, h, hf, ih => by
    rw [List.zip_cons_cons] at hf ih ⊢
    rw [List.all_cons, Bool.and_eq_true] at hf
    have rec' := pre_len_L (L := L) (r := r) (ns := ns) ss a (by simpa using h) hf.2
    rw [List.filterMap_cons] at ih ⊢
    unfold psizeL
    cases s with
    | sign s => cases t <;> cases hf.1
    | lit =>
      cases t with
      | num i =>
        have e : isT (.num i) = false := rfl
        simp only [entryOf, e, Bool.false_eq_true, if_false, Nat.zero_add] at ih ⊢
        exact rec' ih
      | _ => cases hf.1
    | name k =>
      cases t with
      | nm i =>
        have e : isT (.nm i) = false := rfl
        simp only [entryOf, e, Bool.false_eq_true, if_false, Nat.zero_add] at ih ⊢
        exact rec' ih
      | _ => cases hf.1
    | term k os =>
      have e : isT t = true := hf.1
      simp only [entryOf, e, if_true] at ih ⊢
      rw [List.flatMap_cons, List.length_append, ih _ List.mem_cons_self, rec' fun x hx => ih x (List.mem_cons_of_mem _ hx)]
theorem pre_len {L : Lang} {e : Entry} (g : Good L e) : (pre L e).length = psize e.1 := by
  induction g with
  | mk a b ih =>
    rename_i e
    obtain ⟨h1, h2⟩ := things_of_ok a
    have key := pre_len_L (L := L) (r := e.2.1) (ns := binds (both L e.1)) (slots L e.1) (things e.1) h1 h2 ih
    rw [pre_eq, List.length_cons]
    have key' : ((inner L e).flatMap (pre L)).length = psizeL (things e.1) := key
    rw [key']
    obtain ⟨t, r, d⟩ := e
    cases t <;> simp only [things, psize, psizeL] <;> omega
theorem put_pre_L {L : Lang} {r : Sg} {ns : List (Str × Str)} {o : Tm} (ho : isT o = true) : ∀ (ss : List Item) (a : List Tm) (p : Nat) (x : Entry), ss.length = a.length → (ss.zip a).all fits = true →
    (∀ y ∈ (ss.zip a).filterMap (entryOf r ns), Good L y ∧ ∀ (p : Nat) (x : Entry), (pre L y)[p]? = some x → Cut L (pre L (put y.1 p o, y.2)) p (pre L (o, x.2))) →
    (((ss.zip a).filterMap (entryOf r ns)).flatMap (pre L))[p]? = some x →
    Cut L (((ss.zip (putL a p o)).filterMap (entryOf r ns)).flatMap (pre L)) p (pre L (o, x.2))
  | [], [], _, _, _, _, _, hx => by simp at hx
  | [], _ :: _, _, _, h, _, _, _ => by cases h
  | _ :: _, [], _, _, h, _, _, _ => by cases h
  | s :: ss, t :: a, p, x, h, hf, ih, hx => by
    rw [List.zip_cons_cons] at hf ih hx
    rw [List.all_cons, Bool.and_eq_true] at hf
    have rec' := put_pre_L (L := L) (r := r) (ns := ns) ho ss a
    have hl : ss.length = a.length := by simpa using h
    rw [List.filterMap_cons] at ih hx
    unfold putL
    cases s with
    | sign s => cases t <;> cases hf.1
    | lit =>
      cases t with
      | num i =>
        have e : isT (.num i) = false := rfl
        simp only [entryOf, e, Bool.false_eq_true, false_and, if_false, Nat.sub_zero, List.zip_cons_cons, List.filterMap_cons] at ih hx ⊢
        exact rec' p x hl hf.2 ih hx
      | _ => cases hf.1
    | name k =>
      cases t with
      | nm i =>
        have e : isT (.nm i) = false := rfl
        simp only [entryOf, e, Bool.false_eq_true, false_and, if_false, Nat.sub_zero, List.zip_cons_cons, List.filterMap_cons] at ih hx ⊢
        exact rec' p x hl hf.2 ih hx
      | _ => cases hf.1
    | term k os =>
      have e : isT t = true := hf.1
      simp only [entryOf, e, if_true, true_and] at ih hx ⊢
      rw [List.flatMap_cons] at hx
      have hg := ih _ List.mem_cons_self
      have hlen := pre_len hg.1
      simp only at hlen
      split
      · rename_i hc
        rw [List.getElem?_append_left (by rw [hlen]; exact hc)] at hx
        obtain ⟨A, B, e1, e2, e3, e4⟩ := (hg.2 p x hx).ex
        rw [List.zip_cons_cons, List.filterMap_cons]
        simp only [entryOf]
        rw [List.flatMap_cons, e1]
        refine ⟨A, B ++ ((ss.zip a).filterMap (entryOf r ns)).flatMap (pre L), by simp only [List.append_assoc], e2, e3, fun y hy => ?_⟩
        rcases List.mem_append.mp hy with hy | hy
        · exact e4 y hy
        · obtain ⟨z, hz, hyz⟩ := List.mem_flatMap.mp hy
          exact ((ih z (List.mem_cons_of_mem _ hz)).1.mem y hyz).ok
      · rename_i hc
        rw [List.getElem?_append_right (by rw [hlen]; omega), hlen] at hx
        obtain ⟨A, B, e1, e2, e3, e4⟩ := (rec' (p - psize t) x hl hf.2 (fun y hy => ih y (List.mem_cons_of_mem _ hy)) hx).ex
        rw [List.zip_cons_cons, List.filterMap_cons]
        simp only [entryOf]
        rw [List.flatMap_cons, e1]
        refine ⟨pre L (t, opened r ns os, k) ++ A, B, by simp only [List.append_assoc], by rw [List.length_append, hlen, e2]; omega, fun y hy => ?_, e4⟩
        rcases List.mem_append.mp hy with hy | hy
        · exact (hg.1.mem y hy).ok
        · exact e3 y hy
theorem put_pre {L : Lang} {e : Entry} (g : Good L e) {o : Tm} (ho : isT o = true) : ∀ (p : Nat) (x : Entry), (pre L e)[p]? = some x → Cut L (pre L (put e.1 p o, e.2)) p (pre L (o, x.2)) := by
  induction g with
  | mk a b ih =>
    rename_i e
    intro p x hx
    cases p with
    | zero =>
      rw [pre_eq] at hx
      have hx : e = x := Option.some.inj hx
      subst hx
      have e0 : put e.1 0 o = o := by cases e.1 <;> simp only [put]
      rw [e0]
      exact ⟨⟨[], [], by simp, rfl, fun y hy => by simp at hy, fun y hy => by simp at hy⟩⟩
    | succ p =>
      obtain ⟨h1, h2⟩ := things_of_ok a
      rw [pre_eq, List.getElem?_cons_succ] at hx
      obtain ⟨A, B, e1, e2, e3, e4⟩ := (put_pre_L (L := L) (r := e.2.1) (ns := binds (both L e.1)) ho (slots L e.1) (things e.1) p x h1 h2 (fun y hy => ⟨b y hy, ih y hy⟩) hx).ex
      have hs := putL_same (slots L e.1) (things e.1) p o ho
      have hi : inner L (put e.1 (p + 1) o, e.2) = ((slots L e.1).zip (putL (things e.1) p o)).filterMap (entryOf e.2.1 (binds (both L e.1))) := by
        unfold inner both
        simp only [slots_put, things_put, hs.2.2]
      rw [pre_eq, hi, e1]
      refine ⟨(put e.1 (p + 1) o, e.2) :: A, B, by simp only [List.cons_append], by rw [List.length_cons, e2], fun y hy => ?_, e4⟩
      rcases List.mem_cons.mp hy with hy | hy
      · rw [hy, wrong_put L e.1 p o e.2 ho]
        exact a
      · exact e3 y hy
/-- the first wrong part, by its number -/
def findBad (L : Lang) : List Entry → Nat → Option (Str × Nat)
  | [], _ => none
  | e :: r, i => match wrong L e with
    | some w => some (w, i)
    | none => findBad L r (i + 1)
def look (L : Lang) (e : Entry) : Option (Str × Nat) := findBad L (pre L e) 0
theorem findBad_skip {L : Lang} : ∀ (A B : List Entry) (i : Nat), (∀ y ∈ A, wrong L y = none) → findBad L (A ++ B) i = findBad L B (i + A.length)
  | [], B, i, _ => rfl
  | a :: A, B, i, h => by
    rw [List.cons_append]
    unfold findBad
    rw [h a List.mem_cons_self]
    simp only
    rw [findBad_skip A B (i + 1) fun y hy => h y (List.mem_cons_of_mem _ hy), List.length_cons, Nat.add_assoc, Nat.add_comm 1]
    cases B <;> rfl
theorem findBad_ok {L : Lang} (A : List Entry) (i : Nat) (h : ∀ y ∈ A, wrong L y = none) : findBad L A i = none := by
  have := findBad_skip A [] i h
  rw [List.append_nil] at this
  exact this
theorem look_good {L : Lang} {e : Entry} (g : Good L e) : look L e = none := findBad_ok _ _ fun y hy => (g.mem y hy).ok
theorem look_wrong {L : Lang} {e : Entry} {w : Str} (h : wrong L e = some w) : look L e = some (w, 0) := by
  unfold look
  rw [pre_eq]
  unfold findBad
  rw [h]
theorem look_put_good {L : Lang} {e x : Entry} {o : Tm} {p : Nat} (g : Good L e) (hx : (pre L e)[p]? = some x) (ho : isT o = true) (go : Good L (o, x.2)) : look L (put e.1 p o, e.2) = none := by
  obtain ⟨A, B, e1, e2, e3, e4⟩ := (put_pre g ho p x hx).ex
  unfold look
  rw [e1]
  refine findBad_ok _ _ fun y hy => ?_
  rcases List.mem_append.mp hy with hy | hy
  · exact e3 y hy
  · rcases List.mem_append.mp hy with hy | hy
    · exact (go.mem y hy).ok
    · exact e4 y hy
theorem look_put_wrong {L : Lang} {e x : Entry} {o : Tm} {p : Nat} {w : Str} (g : Good L e) (hx : (pre L e)[p]? = some x) (ho : isT o = true) (hw : wrong L (o, x.2) = some w) : look L (put e.1 p o, e.2) = some (w, p) := by
  obtain ⟨A, B, e1, e2, e3, e4⟩ := (put_pre g ho p x hx).ex
  unfold look
  rw [e1, findBad_skip _ _ _ e3, pre_eq, List.cons_append]
  unfold findBad
  rw [hw, e2, Nat.zero_add]
/-- of another kind than its own: kind -/
theorem wrong_kind {L : Lang} {t : Tm} {r : Sg} {d d' : Str} (h : wrong L (t, r, d) = none) (hd : d ≠ d') : wrong L (t, r, d') = some ("kind" : Str) := by
  unfold wrong at h ⊢
  cases t with
  | num i => cases h
  | nm i => cases h
  | name x =>
    simp only at h ⊢
    split at h
    · cases h
    · rename_i k e
      split at h
      · rename_i hk
        rw [if_neg (by rw [hk]; exact hd)]
      · cases h
  | call f a =>
    simp only at h ⊢
    split at h
    · cases h
    · rename_i q e
      split at h
      · cases h
      · rename_i e2
        split at h
        · rename_i hk
          rw [if_neg (by rw [hk]; exact hd)]
        · cases h
  | use t' f a =>
    simp only at h ⊢
    split at h
    · rename_i ht
      rw [if_pos ht]
      split at h
      · cases h
      · rename_i q e
        split at h
        · cases h
        · rename_i e2
          split at h
          · rename_i hk
            rw [if_neg (by rw [hk]; exact hd)]
          · cases h
    · cases h
end K27

set_option maxHeartbeats 4000000
/-! The text of the program by its places. -/
namespace K27
open PySem PySem.Spec PyProof.Rows L2
def top (i : Nat) : Stmt := PySem.Challenge.pw_tonguetower_k27_whole_kinds_of_all_parts.main.body.getD i (.Pass ⟨0, 0, 0, 0⟩)
abbrev s_NoTerm_init : Stmt := inClass (top 2) 0
abbrev s_item_of : Stmt := top 5
abbrev s_tongue_of : Stmt := top 6
abbrev s_heads_of : Stmt := top 7
abbrev s_is_made_of : Stmt := top 11
abbrev s_is_name : Stmt := top 12
abbrev s_is_of_sort : Stmt := top 15
abbrev s_things_due : Stmt := top 16
abbrev s_Looking_init : Stmt := inClass (top 17) 0
abbrev s_Looking_wrong : Stmt := inClass (top 17) 1
abbrev s_Looking_wrong_call : Stmt := inClass (top 17) 2
abbrev s_Looking_wrong_use : Stmt := inClass (top 17) 3
abbrev s_Looking_right_in : Stmt := inClass (top 17) 4
abbrev s_look_term : Stmt := top 18
abbrev s_Lbox : Stmt := top 20
abbrev s_Ltake : Stmt := top 21
abbrev s_Lone_of : Stmt := top 22
abbrev s_Lpool : Stmt := top 23
abbrev s_Lsigns : Stmt := top 24
abbrev s_Lground : Stmt := top 25
abbrev s_Ltongue : Stmt := top 26
abbrev s_Lheads : Stmt := top 27
abbrev s_Ldraw : Stmt := top 28
abbrev s_Litems : Stmt := top 29
abbrev s_Lnew_tongue : Stmt := top 30
abbrev s_Lnew_part : Stmt := top 31
abbrev s_Ltower : Stmt := top 32
abbrev s_Linner : Stmt := top 33
abbrev s_Lparts : Stmt := top 34
abbrev s_Lput : Stmt := top 35
abbrev s_Lsights : Stmt := top 36
abbrev s_Ltold : Stmt := top 37
abbrev s_Lplace_right : Stmt := top 38
abbrev s_law : Stmt := top 39
end K27

/-! len(set(xs)), xs texts that all differ: after HandS.Strs, which has no text or one. -/
namespace K27S
open PySem PySem.Spec PyProof.Rows
section
variable {prog : Program} {w : World} {A : Around} {R : Result → Shared → Prop} {I : Addr} {fp wr : List Addr} {G : Array GenState → Array GenState → Prop} {n : Nat} {P : Nat → Value → Prop} {St : Nat → Shared → Prop}
theorem set_loopN (W : WalksS prog w A.in1 I fp wr G n P St) (S : Addr) (hSf : S ∉ fp) (xs : List Str) (hsz : xs.length = n) (hnd : xs.Nodup) (hb : n + 1 < scanBound)
    (hval : ∀ i v, P i v → ∃ t, v = .str (xs.getD i Str.empty) t) :
    ∀ (k i : Nat) (s : Shared), n - i = k → i ≤ n → St i s →
      s.heap.SetOf (PySem.strKind prog w) S (fun k' => (xs.take i).any (· == k')) i →
      (∀ s', Moved (S :: wr) G s s' → s'.heap.SetOf (PySem.strKind prog w) S (fun k' => (xs.take n).any (· == k')) n → R (.ok (.ret .none)) s') →
      codeAny (model prog w) A (.builtin "set.update.loop" ⟨[.ref S, .ref I], []⟩) R s := by
  have hSw : S ∉ wr := fun h => hSf (W.sub _ h)
  have hsub : ∀ b ∈ wr, b ∈ S :: wr := fun b hb => List.mem_cons_of_mem _ hb
  intro k
  induction k with
  | zero =>
    intro i s hk hi hst hS hR
    have hin : i = n := by omega
    subst hin
    refine codeAny_builtin PyProof.Rows.F.entry_set_update_loop ?_
    rw [Around.under_plainId PyProof.Rows.F.plain_set_update_loop _]
    show wpAny _ A.in1 (pyNext (.ref I) >>= _) _ _ s
    refine wpAny_bind (W.done s _ _ hst fun s' hm => ?_)
    show wpAny _ A.in1 (ret Value.none) _ _ s'
    exact wpAny_pure (hR s' (hm.mono hsub) (by
      obtain ⟨o, es, ep, t, ho, rest⟩ := hS
      exact ⟨o, es, ep, t, hm.heap S _ hSw ho, rest⟩))
  | succ k ih =>
    intro i s hk hi hst hS hR
    have hlt : i < n := by omega
    refine codeAny_builtin PyProof.Rows.F.entry_set_update_loop ?_
    rw [Around.under_plainId PyProof.Rows.F.plain_set_update_loop _]
    show wpAny _ A.in1 (pyNext (.ref I) >>= _) _ _ s
    refine wpAny_bind (W.item i s _ _ hlt hst fun v s' hP hst' hm => ?_)
    obtain ⟨t, rfl⟩ := hval i v hP
    have hS' : s'.heap.SetOf (PySem.strKind prog w) S (fun k' => (xs.take i).any (· == k')) i := by
      obtain ⟨o, es, ep, tb, ho, rest⟩ := hS
      exact ⟨o, es, ep, tb, hm.heap S _ hSw ho, rest⟩
    show wpAny _ A.in1 (holding [Value.str (xs.getD i Str.empty) t] (setAdd S (.str (xs.getD i Str.empty) t)) >>= _) _ _ s'
    refine wpAny_bind (wpAny_holding ?_)
    unfold setAdd
    refine wpAny_holding ?_
    refine wpAny_bind ((PySem.strKind prog w).pyHash (k := xs.getD i Str.empty) (strKind_is _ _ _ _) ?_)
    refine wpAny_setAddHashed_of (knd := PySem.strKind prog w) (s := { s' with toks := s'.toks + 1 }) (strKind_is _ _ _ _) rfl hS' (by omega) fun h' hsb hS2 => ?_
    have hSi : h'.SetOf (PySem.strKind prog w) S (fun k' => (xs.take (i + 1)).any (· == k')) (i + 1) := by
      have hx : xs[i]? = some (xs.getD i Str.empty) := by
        rw [List.getD_eq_getElem?_getD, List.getElem?_eq_getElem (by omega)]
        rfl
      have hno : (xs.take i).any (· == xs.getD i Str.empty) = false := by
        rw [List.any_eq_false]
        intro y hy e
        have e2 : y = xs.getD i Str.empty := by simpa using e
        have h3 := List.take_append_drop i xs
        obtain ⟨hl, he⟩ := List.getElem?_eq_some_iff.mp hx
        rw [List.drop_eq_getElem_cons hl, he] at h3
        rw [← h3] at hnd
        exact (List.nodup_append.mp hnd).2.2 y hy _ List.mem_cons_self e2
      refine SetOf_congr hS2 (fun k' => ?_) (by rw [hno]; rfl)
      rw [List.take_succ, hx, List.any_append]
      congr 1
      show decide (k' = xs.getD i Str.empty) = [xs.getD i Str.empty].any (· == k')
      by_cases e : k' = xs.getD i Str.empty
      · rw [e]
        simp
      · have hb' : (xs.getD i Str.empty == k') = false := by simpa [beq_iff_eq] using (fun h' : xs.getD i Str.empty = k' => e h'.symm)
        rw [List.any_cons, hb', decide_eq_false e]
        rfl
    refine wpAny_pure ⟨plainId_quiet PyProof.Rows.F.plain_set_update_loop _, ih (i + 1) _ (by omega) hlt (W.frame _ s' _ _ hst' (Nat.le_succ _) fun b hb o e => ?_) hSi fun s'' hm'' hS'' => ?_⟩
    · rw [hsb.2 b (fun h : b = S => hSf (by rw [← h]; exact hb))]; exact e
    · refine hR s'' (Moved.trans W.gtrans ((hm.mono hsub).then_heap (Nat.le_succ _) fun b o hb e => ?_) hm'') hS''
      rw [hsb.2 b (fun h : b = S => hb (by rw [h]; exact List.mem_cons_self))]; exact e
end

section
variable {prog : Program} {w : World} {A : Around} {E : Value → Shared → Prop} {s : Shared}
set_option maxHeartbeats 3200000 in
theorem call_setN {l : Addr} {items : Array Value} {xs : List Str} {Q : Value → Shared → Prop}
    (hh : A.handled = none) (hl : s.heap.IsList l items) (hi : PyProof.Rows.StrsAre items.toList xs) (hnd : xs.Nodup) (hn1 : xs.length ≤ 1000)
    (h : ∀ (h' : Heap) (tk : Nat), h'.SetOf (PySem.strKind prog w) s.heap.objs.size (fun k' => (xs.take items.size).any (· == k')) items.size →
      (∀ b o, b < s.heap.objs.size → s.heap.get? b = some o → h'.get? b = some o) → Q (.ref s.heap.objs.size) { s with heap := h', toks := tk }) :
    wpAny (model prog w) A (call (.type "set") [.ref l]) Q E s := by
  obtain ⟨c, tl, hmro⟩ := PySem.F.called_set.mro
  have hmade := PySem.F.called_set.made
  have hsub := PySem.F.called_set.sub
  refine wpAny_call (codeAny_of_tree ?_)
  show wpAny _ _ (callAny (.type "set") _) _ _ _
  refine wpAny_pure ⟨Code.quiet_builtin _ (by decide +kernel), codeAny_builtin PySem.F.entry_type_call ?_⟩
  rw [Around.under_plain (weight_type_call_type "set" [.ref l] []) rfl]
  have h1 := PySem.F.called_set.notType
  have h2 := PySem.F.called_set.canCreate
  have hct := PySem.F.typeCall_set_1 (.ref l)
  repeat (any_goals (first | assumption | wp_step))

  refine codeAny_mono (code_set_new_1 (.ref l) (E := E) (Q₁ := fun obj s₁ => ∃ led : Bool, obj = .ref s.heap.objs.size ∧ s₁ = { s with heap := s.heap.push { cls := .type "set", dict := none, data := .set #[] 0 (.fresh 0 0 led) } }) fun led => ⟨led, rfl, rfl⟩) fun r s₁ hr => ?_
  cases r with
  | error e => exact hr
  | ok fl =>
    cases fl with
    | ret obj =>
      obtain ⟨led, rfl, rfl⟩ := hr
      have hS : (s.heap.push { cls := .type "set", dict := none, data := .set #[] 0 (.fresh 0 0 led) }).get? s.heap.objs.size = some { cls := .type "set", dict := none, data := .set #[] 0 (.fresh 0 0 led) } := Heap.get?_push_size _ rfl
      have hT : Shared.TypeIs { s with heap := s.heap.push { cls := .type "set", dict := none, data := .set #[] 0 (.fresh 0 0 led) } } (.ref s.heap.objs.size) "set" := ⟨_, hS, rfl⟩
      have hli := PySem.F.called_set.init.lookup
      have hbi := PySem.F.called_set.init.bind (.ref s.heap.objs.size)
      repeat (any_goals (first | assumption | wp_step))

      refine codeAny_mono (codeAny_call_builtin (R := wants (fun r s₂ => r = .none ∧ ∃ h' tk, s₂ = { s with heap := h', toks := tk } ∧
          h'.SetOf (PySem.strKind prog w) s.heap.objs.size (fun k' => (xs.take items.size).any (· == k')) items.size ∧
          (∀ b o, b < s.heap.objs.size → s.heap.get? b = some o → h'.get? b = some o)) E) PySem.F.called_set.init.plain PySem.F.entry_set_init (check_set_init_1 hT ?_)) fun r₂ s₂ hr₂ => ?_
      · obtain ⟨ol, hol, hcl, nl, hdl⟩ := hl
        obtain ⟨ocls, odict, odata, oslots⟩ := ol
        simp only at hcl hdl
        subst hcl; subst hdl
        have hol' : (s.heap.push { cls := .type "set", dict := none, data := .set #[] 0 (.fresh 0 0 led) }).get? l = some { cls := .type "list", dict := odict, data := .seq items nl, slots := oslots } := Heap.get?_push_of_some _ hol
        have hsls := PySem.F.sub_list_set
        have hslf := PySem.F.sub_list_frozenset
        have hne : (Value.type "list" == Value.type "dict") = false := by decide
        have hl1 : (s.heap.push { cls := .type "set", dict := none, data := .set #[] 0 (.fresh 0 0 led) }).IsList l items := ⟨_, hol', rfl, nl, rfl⟩
        unfold Builtin.«set.__init__» noKeywords Builtin.Frozenset.updateFrom
        generalize hPI : pyIter = PI
        wp_walk
        subst hPI

        refine wpAny_pyIter_list hl1 ?_
        refine wpAny_bind (wpAny_runValue ?_)
        have hlS : l < s.heap.objs.size := Heap.lt_size hol
        have hh3 : A.in1.in1.in1.handled = none := by simp [hh]
        have hneI : l ≠ (s.heap.push { cls := .type "set", dict := none, data := .set #[] 0 (.fresh 0 0 led) }).objs.size := by
          rw [Heap.size_push]; exact Nat.ne_of_lt (Nat.lt_succ_of_lt hlS)
        have hSf : s.heap.objs.size ∉ [(s.heap.push { cls := .type "set", dict := none, data := .set #[] 0 (.fresh 0 0 led) }).objs.size, l] := by
          rw [Heap.size_push]; simp only [List.mem_cons, List.mem_singleton, List.not_mem_nil, or_false, not_or]
          exact ⟨Nat.ne_of_lt (Nat.lt_succ_self _), Nat.ne_of_gt hlS⟩
        have hsz : xs.length = items.size := by rw [← StrsAre.len_eq hi, Array.length_toList]
        have hval : ∀ (i : Nat) (v : Value), items[i]? = some v → ∃ t, v = .str (xs.getD i Str.empty) t := fun i v hv => SS.strs_at hi i v (by rw [Array.getElem?_toList]; exact hv)
        refine set_loopN ((Walks.list hh3 _ l hneI items).toS) s.heap.objs.size
          hSf xs hsz hnd (by rw [← hsz]; exact Nat.lt_of_le_of_lt (Nat.succ_le_succ hn1) (by decide)) hval (items.size - 0) 0 _ (by omega) (Nat.zero_le _)
          ⟨⟨_, Heap.get?_push_size _ rfl, rfl, rfl⟩, (hl1.push _)⟩ ?hS0 ?hR
        case hS0 =>
          have hget : ((s.heap.push { cls := .type "set", dict := none, data := .set #[] 0 (.fresh 0 0 led) }).push { cls := .type "list_iterator", data := .fields #[.ref l, .int 0 0] }).get? s.heap.objs.size
              = some { cls := .type "set", dict := none, data := .set #[] 0 (.fresh 0 0 led) } := Heap.get?_push_of_some _ hS
          exact PyProof.Rows.SetOf_congr ((PyProof.Rows.setObjOf_fresh (knd := PySem.strKind prog w) led).setOf hget (by unfold scanBound; omega)) (fun _ => rfl) rfl
        case hR =>
          intro s' hm hS'
          obtain ⟨h', g', d', tk', os'⟩ := s'
          have eg : g' = s.gens := hm.gens
          have ed : d' = s.drawn := hm.drawn
          have eo : os' = s.os := hm.os
          subst eg; subst ed; subst eo
          show wpAny _ _ _ _ _ _
          refine wpAny_pure ?_
          show wpAny _ _ (ret Value.none) _ _ _
          refine wpAny_pure ⟨rfl, h', tk', rfl, hS', fun b o hb e => ?_⟩
          have hb1 : b ≠ s.heap.objs.size := Nat.ne_of_lt hb
          have hb2 : b ≠ (s.heap.push { cls := .type "set", dict := none, data := .set #[] 0 (.fresh 0 0 led) }).objs.size := by
            rw [Heap.size_push]; exact Nat.ne_of_lt (Nat.lt_succ_of_lt hb)
          exact hm.heap b o (by simp only [List.mem_cons, List.mem_singleton, List.not_mem_nil, or_false, not_or]; exact ⟨hb1, hb2⟩) (Heap.get?_push_of_some _ (Heap.get?_push_of_some _ e))

      · cases r₂ with
        | error e => exact hr₂
        | ok fl₂ =>
          cases fl₂ with
          | ret r =>
            obtain ⟨rfl, h', tk, rfl, hS', hk'⟩ := hr₂
            repeat (any_goals (first | assumption | wp_step))
            exact h _ _ hS' hk'
          | _ => exact hr₂.elim
    | _ => exact hr.elim

end
end K27S

namespace K27S
open PySem PySem.Spec PyProof.Rows L2
variable {X : Cx}
/-- len(set(xs)), xs a list of texts that all differ -/
def tLenSetN (K : PySem.W.Frag) (ta : TE) : TE := fun σ H Q => ta σ H fun x H1 => ∃ l, ∃ xs : List Str, x = .ref l ∧ SqL K H1 l (xs.map V.str) ∧ xs.Nodup ∧ xs.length ≤ 1000 ∧ Q (.int xs.length) H1
theorem pe_lenSetN {a : Expr} {ta : TE} {p p2 q pos : Pos} (hc : X.calm = true) (hg : Gl X "len") (hm : X.mg "len" = none) (hg2 : Gl X "set") (hm2 : X.mg "set" = none) (ha : PE X a ta)
    (na : starEach [a] X.env = (false, eval a X.env) :: starEach [] X.env := by rfl) : PE X (.Call (.Name "len" p) [.Call (.Name "set" p2) [a] [] q] [] pos) (tLenSetN X.K ta) := by
  refine ⟨fun pins s σ H Q I h => ?_⟩
  refine Call_ (ld_blt I hg hm boot_len ?_)
  refine callWith_builtin1 (args_cons ?_ rfl) rfl rfl
  refine Call_ (ld_blt I hg2 hm2 boot_set ?_)
  refine callWith_type1 (args_cons (thn (ha.run pins s σ H _ I h) fun v s1 ⟨x, H1, I1, r1, q1⟩ => args_nil ?_) na) na rfl
  obtain ⟨l, xs, rfl, hq, h1, h2, q1⟩ := q1
  cases r1
  obtain ⟨its, r, pl, hz⟩ := I1.list hq
  refine call_setN (I1.ok.hd hc) pl.isList (by simpa using strsAre_of r) h1 h2 fun h' tk hS hk => ?_
  refine args_nil ?_
  have hl : its.toArray.size = xs.length := by rw [List.size_toArray, ← r.length, List.length_map]
  rw [hl] at hS
  obtain ⟨o, es, ep, t, ho, hex, hd, _, _, _, hf, hn⟩ := hS
  have I2 : Inv X pins σ H1 { s1 with heap := h', toks := tk } := I1.kept fun b o e => hk b o (Heap.lt_size e) e
  exact call_len_set ho hex hd hf (by rw [hn] <;> omega) ⟨.int xs.length, H1, I2.tok _, ⟨_, by rw [hn]⟩, q1⟩
end K27S

set_option maxHeartbeats 4000000
/-! x, y, *z = a tuple. -/
namespace K27
open PySem PySem.Spec PyProof.Rows L2 PySem.W
theorem star_tup {prog : Program} {w : World} {A : Around} {E : Value → Shared → Prop} {s : Shared} {l : Addr} {items : Array Value} {n i : Nat} {Q : List Value → Shared → Prop} (hl : IsTup s.heap l items) (hh : A.handled = none) (hi : i + 1 = n) (hn : n ≤ items.size + 1) (hz : items.size ≤ 16384)
    (h : ∀ (h' : Heap) tk, (∀ b o, s.heap.get? b = some o → h'.get? b = some o) → Q (items.toList.take i ++ [.ref h'.objs.size]) { s with heap := h'.push { cls := .type "list", data := .seq (items.toList.drop i).toArray }, toks := tk }) :
    wpAny (model prog w) A (unpackItems (.ref l) n (some i)) Q E s := by
  have hlt : l ≠ s.heap.objs.size := by obtain ⟨o, ho, _⟩ := hl; exact Nat.ne_of_lt (Heap.lt_size ho)
  have hll : l < s.heap.objs.size := by obtain ⟨o, ho, _⟩ := hl; exact Heap.lt_size ho
  unfold unpackItems
  refine wpAny_bind ?_
  unfold notIterableAtAll
  refine wpAny_bind (wpAny_specialOf hl.typeIs slot_tuple_iter.lookup ?_)
  refine wpAny_pure ?_
  simp only [Bool.false_eq_true, if_false]
  refine wpAny_bind (wpAny_holding (iter_tuple hl ?_))
  refine wpAny_bind (wpAny_holding (draw_tuple hlt i 0 _ _ ⟨_, Heap.get?_push_size _ rfl, rfl, rfl⟩ (hl.push _) (by omega) fun h₁ hit₁ hs₁ => ?_))
  have hl₁ : IsTup h₁ l items := (hl.push _).extBut hs₁.extBut hlt
  rw [Nat.zero_add] at hit₁
  have hit₁' := hit₁
  obtain ⟨oi, hoi, _⟩ := hit₁'
  have hl₁' := hl₁
  obtain ⟨ol, hol, _⟩ := hl₁'
  rw [List.drop_zero]
  have hfl : (items.toList.take i).length = i := by rw [List.length_take, Array.length_toList]; omega
  rw [if_neg (show ¬ ((items.toList.take i).length < i) by rw [hfl]; omega)]
  refine wpAny_bind (wpAny_holding (kun_collect (s := { s with heap := h₁ }) (T := "tuple_iterator") (.inr (.inr (.inr rfl))) (Walks.tuple (A := A.in1) hh s.heap.objs.size l hlt items) (fun j u st => st.1.typeIs) (k := i) (by omega) ⟨hit₁, hl₁⟩ (Heap.lt_size hoi) (Heap.lt_size hol) (fun h₂ tk hk => ?_) (by rw [sizeLine_eq]; omega)))
  have hrl : (items.toList.drop i).length = items.size - i := by rw [List.length_drop, Array.length_toList]
  show wpAny _ _ (if (items.toList.drop i).length < n - 1 - i then _ else _) _ _ _
  rw [if_neg (by rw [hrl]; omega)]
  show wpAny _ _ (newList ((items.toList.drop i).take ((items.toList.drop i).length - (n - 1 - i))) >>= fun d => pure (items.toList.take i ++ [d] ++ (items.toList.drop i).drop ((items.toList.drop i).length - (n - 1 - i)))) _ _ _
  have e0 : (items.toList.drop i).length - (n - 1 - i) = (items.toList.drop i).length := by omega
  rw [e0, List.take_length, List.drop_length]
  have he : Heap.ExtBut s.heap.objs.size s.heap h₂ := fun b o hb e => hk b o hb (hs₁.extBut b o hb (Heap.get?_push_of_some _ e))
  have old : ∀ b o, s.heap.get? b = some o → h₂.get? b = some o := fun b o e => he b o (Nat.ne_of_lt (Heap.lt_size e)) e
  refine wpAny_bind (wpAny_newObj_type ?_ (by show (items.toList.drop i).toArray.size ≤ sizeLine; rw [List.size_toArray, hrl, sizeLine_eq]; omega))
  refine wpAny_pure ?_
  rw [List.append_nil]
  exact h h₂ tk old
/-- x, y, *z = a tuple -/
def gStar (K : PySem.W.Frag) (k : Nat) (t : TGs) : TG := fun v σ H Q => ∃ a xs, v = .ref a ∧ SqT K H a xs ∧ k ≤ xs.length ∧ xs.length ≤ 1000 ∧ ∀ D, H D = none → t (xs.take k ++ [.ref D]) σ (upd H D (.lst (xs.drop k))) Q
section
variable {X : Cx} {es : List Expr} {k n : Nat} {t : TGs} {pos p : Pos} {x1 : Nat} {e : Expr} {g : TG}
theorem pgs_star (h1 : PG X e g) (h2 : PGs X es t) (hs : (assignEach (.Starred e p :: es) X.env).map (·.2) = assign e X.env :: (assignEach es X.env).map (·.2) := by rfl) : PGs X (.Starred e p :: es) (gCons g t) := by
  refine ⟨fun pins s σ H vs us Q I r h => ?_⟩
  obtain ⟨v, vr, e1, h⟩ := h
  subst e1
  cases r with
  | cons r rr =>
    rw [hs]
    refine assignInOrder_cons (thn (h1.run pins s σ H _ _ _ I r h) fun _ s1 ⟨σ1, H1, I1, q1⟩ => ?_)
    exact h2.run pins s1 σ1 H1 _ _ Q I1 rr q1
theorem pg_star (hc : X.calm = true) (h : PGs X es t) (hn : (assignEach es X.env).length = k + 1 := by rfl) (hst : (assignEach es X.env).findIdx? (·.1) = some k := by rfl) : PG X (.Tuple es x1 pos) (gStar X.K k t) := by
  refine ⟨fun pins s σ H v u Q I r hw => ?_⟩
  obtain ⟨a, xs, e1, hq, hl, hl2, hw⟩ := hw
  subst e1
  cases r
  obtain ⟨its, rv, ht, hz⟩ := I.tuple hq
  have hlen := rv.length
  rw [assign_Tuple]
  refine wpAny_bind (wpAny_standAt ?_)
  unfold unpack
  rw [hn, hst]
  refine wpAny_bind (wpAny_holding (star_tup ht (I.ok.hd hc) rfl (by rw [List.size_toArray]; omega) (by rw [List.size_toArray]; omega) fun h' tk old => ?_))
  have I1 : Inv X pins σ H { s with heap := h', toks := tk } := I.kept (t' := tk) old
  have hD : H h'.objs.size = none := I1.hok.fresh (Nat.le_refl _)
  have I2 : Inv X pins σ (upd H h'.objs.size (.lst (xs.drop k))) { s with heap := h'.push { cls := .type "list", data := .seq (its.toArray.toList.drop k).toArray }, toks := tk } := by
    refine I1.laid (t' := tk) (fun b o e => Heap.get?_push_of_some _ e) (Nat.le_refl _) ⟨by rw [List.length_drop]; omega, its.drop k, 0, rv.drop k, ?_⟩
    exact Heap.get?_push_size _ rfl
  have rD : Vals [V.ref h'.objs.size] [Value.ref h'.objs.size] := .cons rfl .nil
  have hv : Vals (xs.take k ++ [.ref h'.objs.size]) (its.toArray.toList.take k ++ [.ref h'.objs.size]) := Vals.append (rv.take k) rD
  exact h.run pins _ σ _ (xs.take k ++ [.ref h'.objs.size]) _ Q I2 hv (hw _ hD)
end
end K27

set_option maxHeartbeats 4000000
/-! T.__init__(self, ..), T an own class over ValueError without an __init__ of its own. -/
namespace K27
open PySem PySem.Spec PyProof.Rows L2
/-- what the written part says of T -/
structure BaseC (K : PySem.W.Frag) (T : Addr) : Prop where
  rd : PySem.W.readsIn K T (.type "type") = true
  ga : PySem.W.specialIn K (.ref T) "__getattribute__" = some (some (.builtin "type.__getattribute__"))
  at_ : PySem.W.findCls K (.ref T) (.type "type") "__init__" = some (.val (.builtin "ValueError.__init__"))
def cvalIs : Option PySem.W.CFound → Bool
  | some (.val (.builtin n)) => decide (n = "ValueError.__init__")
  | _ => false
def baseB (K : PySem.W.Frag) (T : Addr) : Bool := PySem.W.readsIn K T (.type "type") && (decide (PySem.W.specialIn K (.ref T) "__getattribute__" = some (some (.builtin "type.__getattribute__"))) && cvalIs (PySem.W.findCls K (.ref T) (.type "type") "__init__"))
theorem baseB_ok {K : PySem.W.Frag} {T : Addr} (h : baseB K T = true) : BaseC K T := by
  obtain ⟨h1, h⟩ := Bool.and_eq_true_iff.mp h
  obtain ⟨h2, h3⟩ := Bool.and_eq_true_iff.mp h
  refine ⟨h1, of_decide_eq_true h2, ?_⟩
  unfold cvalIs at h3
  split at h3
  · rename_i n e
    rw [e, of_decide_eq_true h3]
  · cases h3
section
variable {X : Cx} {o e : Expr} {es : List Expr} {to te : TE} {ta : TA} {f x : Str} {p p' p1 p2 pos : Pos} {T : Addr}
theorem pe_baseinit {pl : Sem Bool} (hg : Gl X x) (hm : X.mg x = some (.ref T)) (B : BaseC X.K T) (ha : PA X (e :: es) ta)
    (hc : eval (.Call (.Attribute (.Name x p1) "__init__" p2) (e :: es) [] pos) X.env = (do
      let ov ← eval (.Name x p1) X.env
      standAt p2.atName
      let (f, first) ← holding [ov] (getMethod ov "__init__" pl)
      callWith pos f first (backTo pos (starEach (e :: es) X.env)) (backToKw pos (keywordEach [] X.env))) := by rfl)
    (hdb : (x == ("__debug__" : Str)) = false := by decide) (he : starEach (e :: es) X.env = (false, eval e X.env) :: starEach es X.env := by rfl) (hpl : (backTo pos (starEach es X.env)).any (·.1) = false := by rfl) :
    PE X (.Call (.Attribute (.Name x p1) "__init__" p2) (e :: es) [] pos) (tVeI X.K ta) := by
  refine ⟨fun pins s σ H Q I h => ?_⟩
  refine PySem.W.methodCall_KW (ld_glob I hg hm ?_ hdb) hc
  refine PySem.W.method_cls I.kIn B.ga (PySem.W.cls_value I.kIn B.rd B.at_ (by decide +kernel) ?_)
  show wpAny _ _ (callWith pos (Value.builtin "ValueError.__init__") [] (backTo pos (starEach (e :: es) X.env)) []) _ _ _
  refine PyProof.Rows.callWith_method1 (thn (ha.run pos pins _ σ H _ (I.tok _) h) fun us s1 ⟨vs, H1, I1, r1, a, C, ws, ev, hl, T, ea, q⟩ => ?_) he hpl
  subst ev
  cases r1 with
  | @cons _ u0 _ ur ra rw' =>
    obtain rfl : u0 = Value.ref a := ra
    have hlen : ur.length ≤ sizeLine := by
      rw [← Paired.length rw', sizeLine_eq]
      omega
    exact oinit_ok T I1 ea hlen fun s' J => ⟨.non, H1, J, rfl, q⟩
end
end K27

set_option maxHeartbeats 0
namespace K27
open PySem PySem.Spec PyProof.Rows L2
def fn : List He.DefD := [
  ⟨("NoTerm", some "__init__"), "__init__", "NoTerm.__init__", defArgs s_NoTerm_init, defBody s_NoTerm_init, defScope s_NoTerm_init, [], []⟩,
  ⟨("item_of", none), "item_of", "item_of", defArgs s_item_of, defBody s_item_of, defScope s_item_of, [], []⟩,
  ⟨("tongue_of", none), "tongue_of", "tongue_of", defArgs s_tongue_of, defBody s_tongue_of, defScope s_tongue_of, [], []⟩,
  ⟨("heads_of", none), "heads_of", "heads_of", defArgs s_heads_of, defBody s_heads_of, defScope s_heads_of, [], []⟩,
  ⟨("is_made_of", none), "is_made_of", "is_made_of", defArgs s_is_made_of, defBody s_is_made_of, defScope s_is_made_of, [], []⟩,
  ⟨("is_name", none), "is_name", "is_name", defArgs s_is_name, defBody s_is_name, defScope s_is_name, [], []⟩,
  ⟨("is_of_sort", none), "is_of_sort", "is_of_sort", defArgs s_is_of_sort, defBody s_is_of_sort, defScope s_is_of_sort, [], []⟩,
  ⟨("things_due", none), "things_due", "things_due", defArgs s_things_due, defBody s_things_due, defScope s_things_due, [], []⟩,
  ⟨("Looking", some "__init__"), "__init__", "Looking.__init__", defArgs s_Looking_init, defBody s_Looking_init, defScope s_Looking_init, [], []⟩,
  ⟨("Looking", some "wrong"), "wrong", "Looking.wrong", defArgs s_Looking_wrong, defBody s_Looking_wrong, defScope s_Looking_wrong, [], []⟩,
  ⟨("Looking", some "wrong_call"), "wrong_call", "Looking.wrong_call", defArgs s_Looking_wrong_call, defBody s_Looking_wrong_call, defScope s_Looking_wrong_call, [], []⟩,
  ⟨("Looking", some "wrong_use"), "wrong_use", "Looking.wrong_use", defArgs s_Looking_wrong_use, defBody s_Looking_wrong_use, defScope s_Looking_wrong_use, [], []⟩,
  ⟨("Looking", some "right_in"), "right_in", "Looking.right_in", defArgs s_Looking_right_in, defBody s_Looking_right_in, defScope s_Looking_right_in, [], []⟩,
  ⟨("look_term", none), "look_term", "look_term", defArgs s_look_term, defBody s_look_term, defScope s_look_term, [], []⟩,
  ⟨("_law_box", none), "_law_box", "_law_box", defArgs s_Lbox, defBody s_Lbox, defScope s_Lbox, [], []⟩,
  ⟨("_law_take", none), "_law_take", "_law_take", defArgs s_Ltake, defBody s_Ltake, defScope s_Ltake, [], []⟩,
  ⟨("_law_one_of", none), "_law_one_of", "_law_one_of", defArgs s_Lone_of, defBody s_Lone_of, defScope s_Lone_of, [], []⟩,
  ⟨("_law_pool", none), "_law_pool", "_law_pool", defArgs s_Lpool, defBody s_Lpool, defScope s_Lpool, [], []⟩,
  ⟨("_law_signs", none), "_law_signs", "_law_signs", defArgs s_Lsigns, defBody s_Lsigns, defScope s_Lsigns, [], []⟩,
  ⟨("_law_ground", none), "_law_ground", "_law_ground", defArgs s_Lground, defBody s_Lground, defScope s_Lground, [], []⟩,
  ⟨("_law_tongue", none), "_law_tongue", "_law_tongue", defArgs s_Ltongue, defBody s_Ltongue, defScope s_Ltongue, [], []⟩,
  ⟨("_law_heads", none), "_law_heads", "_law_heads", defArgs s_Lheads, defBody s_Lheads, defScope s_Lheads, [], []⟩,
  ⟨("_law_draw", none), "_law_draw", "_law_draw", defArgs s_Ldraw, defBody s_Ldraw, defScope s_Ldraw, [], []⟩,
  ⟨("_law_items", none), "_law_items", "_law_items", defArgs s_Litems, defBody s_Litems, defScope s_Litems, [], []⟩,
  ⟨("_law_new_tongue", none), "_law_new_tongue", "_law_new_tongue", defArgs s_Lnew_tongue, defBody s_Lnew_tongue, defScope s_Lnew_tongue, [], []⟩,
  ⟨("_law_new_part", none), "_law_new_part", "_law_new_part", defArgs s_Lnew_part, defBody s_Lnew_part, defScope s_Lnew_part, [], []⟩,
  ⟨("_law_tower", none), "_law_tower", "_law_tower", defArgs s_Ltower, defBody s_Ltower, defScope s_Ltower, [], []⟩,
  ⟨("_law_inner", none), "_law_inner", "_law_inner", defArgs s_Linner, defBody s_Linner, defScope s_Linner, [], []⟩,
  ⟨("_law_parts", none), "_law_parts", "_law_parts", defArgs s_Lparts, defBody s_Lparts, defScope s_Lparts, [], []⟩,
  ⟨("_law_put", none), "_law_put", "_law_put", defArgs s_Lput, defBody s_Lput, defScope s_Lput, [], []⟩,
  ⟨("_law_sights", none), "_law_sights", "_law_sights", defArgs s_Lsights, defBody s_Lsights, defScope s_Lsights, [], []⟩,
  ⟨("_law_told", none), "_law_told", "_law_told", defArgs s_Ltold, defBody s_Ltold, defScope s_Ltold, [], []⟩,
  ⟨("_law_place_right", none), "_law_place_right", "_law_place_right", defArgs s_Lplace_right, defBody s_Lplace_right, defScope s_Lplace_right, [], []⟩,
  ⟨("law", none), "law", "law", defArgs s_law, defBody s_law, defScope s_law, [], []⟩]
def fa : List He.Fa := [
  .glo "item_of",
  .glo "tongue_of",
  .glo "heads_of",
  .glo "is_made_of",
  .glo "is_name",
  .glo "is_of_sort",
  .glo "things_due",
  .glo "look_term",
  .glo "_law_box",
  .glo "_law_take",
  .glo "_law_one_of",
  .glo "_law_pool",
  .glo "_law_signs",
  .glo "_law_ground",
  .glo "_law_tongue",
  .glo "_law_heads",
  .glo "_law_draw",
  .glo "_law_items",
  .glo "_law_new_tongue",
  .glo "_law_new_part",
  .glo "_law_tower",
  .glo "_law_inner",
  .glo "_law_parts",
  .glo "_law_put",
  .glo "_law_sights",
  .glo "_law_told",
  .glo "_law_place_right",
  .glo "law",
  .glo "GROUND",
  .glo "NoTerm",
  .glo "TowerError",
  .glo "Looking",
  .str "LETTERS" "abcdefghijklmnopqrstuvwxyz",
  .int "LONGEST" 6,
  .int "MOST_NUMBER" 999,
  .free "len",
  .free "isinstance",
  .free "all",
  .free "zip",
  .free "set",
  .free "list",
  .free "dict",
  .free "range",
  .free "enumerate",
  .free "tuple",
  .free "int",
  .free "max",
  .free "min",
  .free "bool",
  .free "str",
  .cls "Looking",
  .mkr "Looking",
  .meth "Looking" "wrong",
  .meth "Looking" "wrong_call",
  .meth "Looking" "wrong_use",
  .meth "Looking" "right_in",
  .noat "Looking" "tongue",
  .noat "Looking" "forms",
  .noat "Looking" "heads"]
def groundD : PyData := .tuple [.str "tongue", .str "ground", .str "", .tuple [.tuple [.str "num", .str ""]], .tuple [.str "nought", .str "need"], .tuple [], .tuple [.tuple [.str "NUM", .tuple [.tuple [.str "lit"]], .str "num", .none], .tuple [.str "+", .tuple [.tuple [.str "term", .str "num", .tuple []], .tuple [.str "term", .str "num", .tuple []]], .str "num", .none], .tuple [.str "-", .tuple [.tuple [.str "term", .str "num", .tuple []], .tuple [.str "term", .str "num", .tuple []]], .str "num", .none], .tuple [.str "*", .tuple [.tuple [.str "term", .str "num", .tuple []], .tuple [.str "term", .str "num", .tuple []]], .str "num", .none], .tuple [.str "/", .tuple [.tuple [.str "term", .str "num", .tuple []], .tuple [.str "term", .str "num", .tuple []]], .str "num", .none], .tuple [.str "<", .tuple [.tuple [.str "term", .str "num", .tuple []], .tuple [.str "term", .str "num", .tuple []]], .str "num", .none], .tuple [.str "=", .tuple [.tuple [.str "term", .str "num", .tuple []], .tuple [.str "term", .str "num", .tuple []]], .str "num", .none], .tuple [.str "IF", .tuple [.tuple [.str "term", .str "num", .tuple []], .tuple [.str "term", .str "num", .tuple []], .tuple [.str "term", .str "num", .tuple []]], .str "num", .none], .tuple [.str "NEED", .tuple [.tuple [.str "term", .str "num", .tuple []], .tuple [.str "term", .str "num", .tuple []]], .str "num", .none], .tuple [.str "LET", .tuple [.tuple [.str "name", .str "num"], .tuple [.str "term", .str "num", .tuple []], .tuple [.str "term", .str "num", .tuple [.int 0]]], .str "num", .none], .tuple [.str "LOOP", .tuple [.tuple [.str "term", .str "num", .tuple []], .tuple [.str "name", .str "num"], .tuple [.str "term", .str "num", .tuple []], .tuple [.str "term", .str "num", .tuple [.int 0]]], .str "num", .none]]]
/-! a value of the written part as data -/
mutual
def isD (K : PySem.W.Frag) : PyData → Value → Bool
  | .none, .none => true
  | .int i, .int j _ => decide (i = j)
  | .str x, .str y _ => decide (x = y)
  | .tuple ds, .ref a => (match K.lookup a with
    | some ⟨.type c, _, .seq its _, _⟩ => decide (c = "tuple") && (decide (its.size ≤ sizeLine) && isDs K ds its.toList)
    | _ => false)
  | _, _ => false
def isDs (K : PySem.W.Frag) : List PyData → List Value → Bool
  | [], [] => true
  | d :: ds, v :: vs => isD K d v && isDs K ds vs
  | _, _ => false
end
def oexB (K : PySem.W.Frag) (C : Addr) : Bool := (match K.lookup C with
  | some ⟨.type t, _, .cls cd, sl⟩ => (match cd.mro, sl.toList with
    | .ref c :: bm, [_, _, _, _, some (.builtin n), _] => decide (t = "type") && (decide (c = C) && (decide (n = "ValueError.__new__") && (!cd.hasDel && (cd.hasDict && PySem.HandSPX.refsVE bm))))
    | _, _ => false)
  | _ => false)
def noTermB (K : PySem.W.Frag) : Bool := oexB K (He.ga K "NoTerm") && (xfB K (He.ga K "NoTerm") && ((He.Fa.noat "NoTerm" "word").ok K && ((He.Fa.noat "NoTerm" "at").ok K && ((He.Fa.keep "NoTerm").ok K && ((He.Fa.meth "NoTerm" "__init__").ok K && ((He.Fa.exm "NoTerm" "NoTerm" true).ok K && (decide (PySem.W.findIn K (.ref (He.ga K "NoTerm")) "__setattr__" = some (some (.builtin "object.__setattr__"))) && decide (PySem.W.typeIn K (.ref (He.ga K "NoTerm")) = some (.type "type")))))))))
def exB (K : PySem.W.Frag) : Bool := isD K groundD (.ref (He.ga K "GROUND")) && (noTermB K && baseB K (He.ga K "TowerError"))
def kids (g : Addr → Option Obj) (a : Addr) : List Addr := match g a with
  | some ⟨.type _, _, .seq its _, _⟩ => its.toList.flatMap He.refV
  | _ => []
def lev (g : Addr → Option Obj) : Nat → List Addr
  | 0 => He.asD g 1
  | n + 1 => (lev g n).flatMap (kids g)
def asK (g : Addr → Option Obj) : List Addr := cStatics :: He.asD g 5 ++ (lev g 1 ++ (lev g 2 ++ (lev g 3 ++ (lev g 4 ++ (lev g 5 ++ lev g 6)))))
abbrev AlK : Type := He.AlD × Bool
def obsK (g : Addr → Option Obj) : AlK := (He.obsD fa fn (He.frG g (asK g)), exB (He.frG g (asK g)))
def SaysK (K : PySem.W.Frag) : Prop := He.SaysD fa fn K ∧ exB K = true
def hookK : PySem.W.Hook where
  α := AlK
  obs := fun s => obsK s.heap.get?
  val := fun _ => (He.valD fn, true)
  says := fun _ h => ∃ K : PySem.W.Frag, K.In h ∧ SaysK K
  of := fun _ _ e => ⟨_, He.frG_in, congrArg (fun z : AlK => z.1) e, congrArg (fun z : AlK => z.2) e⟩
  keeps := fun _ _ _ ⟨K, hK, c⟩ k => ⟨K, PySem.W.Frag.In.keeps hK k, c⟩
abbrev RowO : PySem.W.OpenRow := PySem.W.OpenLaw.row PySem.Challenge.rw_tonguetower_k27_whole_kinds_of_all_parts
def obT (s : PySem.W.SharedT) : AlK := obsK (HandSHeadRun.getT s)
theorem obT_eq (s : PySem.W.SharedT) : obT s = hookK.obs s.abs := by
  have e : HandSHeadRun.getT s = s.abs.heap.get? := funext (HandSHeadRun.getT_eq s)
  show obsK (HandSHeadRun.getT s) = obsK s.abs.heap.get?
  rw [e]
def loose0 : List Str := ["TowerError", "NoTerm", "GROUND", "item_of", "tongue_of", "heads_of", "LETTERS", "LONGEST", "is_made_of", "is_name", "MOST_NUMBER", "is_of_sort", "things_due", "Looking", "look_term", "_law_box", "_law_take", "_law_one_of", "_law_pool", "_law_signs"]
def loose1 : List Str := ["_law_ground", "_law_tongue", "_law_heads", "_law_draw", "_law_items", "_law_new_tongue", "_law_new_part", "_law_tower", "_law_inner", "_law_parts", "_law_put", "_law_sights", "_law_told", "_law_place_right"]
def loose : List Str := loose0 ++ loose1

end K27

set_option maxHeartbeats 0
namespace K27
open PySem PySem.Spec PyProof.Rows L2
theorem run (w : World) : HandSHeadRun.RunEq RowO (PySem.W.view RowO.prog [39]) hookK obT 6000 loose w := by
  intro os
  kernel_rfl
end K27

set_option maxHeartbeats 4000000
/-! zip over any two iterators of one length, strict or not, its tuple free or held; list(zip(..)). -/
namespace K27Z
open PySem PySem.W PySem.Calls PyProof.Rows PyProof.V PySem.Spec
abbrev ZC (h : Heap) (z TI TO : Addr) (f0 : Value) (f1 b : Bool) : Prop :=
  h.get? z = some { cls := .type "zip", dict := none, data := .fields #[f0, .bool f1, .bool b, .ref TI, .ref TO], slots := #[] }
section
variable {prog : Program} {w : World} {A : Around} {E : Value → Shared → Prop} {s : Shared} {it : Addr} {fp : List Addr} {n i : Nat} {P : Nat → Value → Prop} {St : Nat → Heap → Prop}
theorem noe_item {Q : Option Value → Shared → Prop} (D : Draws prog w A it fp n P St) (hi : i < n) (st : St i s.heap)
    (hQ : ∀ x h' tk, P i x → St (i + 1) h' → Heap.SameBut it s.heap h' → Q (some x) { s with heap := h', toks := tk }) : wpAny (model prog w) A (Builtin.SmallTypes.nextOrEnd (.ref it)) Q E s := by
  unfold Builtin.SmallTypes.nextOrEnd
  exact wpAny_bind (wpAny_attempt (D.item i s _ _ hi st fun x h' tk hx hs hb => wpAny_pure (hQ x h' tk hx hs hb)))
theorem noe_done {Q : Option Value → Shared → Prop} (D : Draws prog w A it fp n P St) (st : St n s.heap)
    (hQ : ∀ h', Heap.ExtBut it s.heap h' → Q none { s with heap := h' }) : wpAny (model prog w) A (Builtin.SmallTypes.nextOrEnd (.ref it)) Q E s := by
  unfold Builtin.SmallTypes.nextOrEnd
  refine wpAny_bind (wpAny_attempt (D.done s _ _ st fun h' e hb he => ?_))
  refine wpAny_bind (wpAny_isInstance (T := "StopIteration") (b := true) he isSubtype_stop ?_)
  exact wpAny_pure (hQ h' hb)
end
section
variable {prog : Program} {w : World} {A : Around} {E : Value → Shared → Prop} {s : Shared} {z TI TO i1 i2 : Addr} {fp1 fp2 : List Addr} {n1 n2 i : Nat} {P1 P2 : Nat → Value → Prop} {St1 St2 : Nat → Heap → Prop} {a1 a2 : Value}
/-- what a turn asks of a zip and its iterators -/
structure Lay (s : Shared) (z TI TO i1 i2 : Addr) : Prop where
  hTI : IsTupOf2 s.heap TI (.ref i1) (.ref i2)
theorem held {T : Addr} {f1 b : Bool} {oT : Obj} {Q : Bool → Shared → Prop} (hz : ZC s.heap z TI TO (rawInt T) f1 b) (hT : s.heap.get? T = some oT)
    (h : ∀ h', ZC h' z TI TO (rawInt T) true b → Heap.SameBut z s.heap h' → Q false { s with heap := h' }) : wpAny (model prog w) A (Builtin.SmallTypes.ownedTupleIsFree (.ref z)) Q E s := by
  unfold Builtin.SmallTypes.ownedTupleIsFree
  refine wpAny_bind (wpAny_field hz rfl (x := rawInt T) rfl ?_)
  show wpAny _ _ (loadIfAlive ((T : Int).toNat) >>= _) _ _ _
  rw [Int.toNat_natCast]
  refine wpAny_bind (kdx_alive hT ?_)
  simp only [Option.isNone_some, Bool.false_eq_true, if_false]
  refine wpAny_bind (wpAny_field hz rfl (x := .bool f1) rfl ?_)
  cases f1 with
  | true =>
    rw [if_neg (show ¬ ((Value.bool true != Value.bool true) = true) from Bool.false_ne_true)]
    exact wpAny_pure (h s.heap hz (Heap.SameBut.refl _ _))
  | false =>
    rw [if_pos (show (Value.bool false != Value.bool true) = true from rfl)]
    exact wpAny_bind (wpAny_setField_rec hz (by simp) fun h₁ hz₁ hs₁ => wpAny_pure (h h₁ hz₁ hs₁))

theorem stop_ok {α : Type} {M : Model} {Q : α → Shared → Prop} (hh : A.handled = none) (hE : ∀ h' e, (∀ c o, s.heap.get? c = some o → h'.get? c = some o) → (∃ o, h'.get? e = some o ∧ o.cls = .type "StopIteration") → E (.ref e) { s with heap := h' }) :
    wpAny M A (Builtin.SmallTypes.stopIteration : Sem α) Q E s := by
  unfold Builtin.SmallTypes.stopIteration
  refine wpAny_bind ?_
  simp only [newExc, newTuple]
  refine wpAny_bind (wpAny_newObj_type ?_ (by size_fits))
  refine wpAny_bind (m := firstArgMember _ _) (wpAny_of_eq (a := Value.none) (by first | rfl | (simp only [firstArgMember]; rfl)) ?_)
  refine wpAny_newObj_type ?_ (by size_fits)
  simp only [raiseNew]
  refine wpAny_bind (wpAny_handled ?_)
  rw [hh]
  refine wpAny_bind (wpAny_pure (wpAny_throw ?_))
  exact hE _ _ (fun c o e => Heap.get?_push_of_some _ (Heap.get?_push_of_some _ e)) ⟨_, Heap.get?_push_size _ rfl, rfl⟩
/-- strict, the tuple free: an item -/
theorem s_item_free {f1 : Bool} {Q : Value → Shared → Prop} (S : ZipSep2 z TI TO i1 i2 fp1 fp2) (D1 : Draws prog w A i1 fp1 n1 P1 St1) (D2 : Draws prog w A i2 fp2 n2 P2 St2)
    (hz : ZC s.heap z TI TO .none f1 true) (hTI : IsTupOf2 s.heap TI (.ref i1) (.ref i2)) (hTO : IsTupOf2 s.heap TO a1 a2) (st1 : St1 i s.heap) (st2 : St2 i s.heap) (hlt1 : i < n1) (hlt2 : i < n2)
    (hQ : ∀ x1 x2 h' tk, P1 i x1 → P2 i x2 → ZC h' z TI TO (rawInt s.heap.objs.size) false true → IsTupOf2 h' TO x1 x2 → St1 (i + 1) h' → St2 (i + 1) h' → IsTupOf2 h' s.heap.objs.size x1 x2 → h'.objs.size = s.heap.objs.size + 1 →
      (∀ c o, c ≠ z → c ≠ TO → c ≠ i1 → c ≠ i2 → s.heap.get? c = some o → h'.get? c = some o) → Q (.ref s.heap.objs.size) { s with heap := h', toks := tk }) :
    wpAny (model prog w) A (Builtin.«zip.__next__» ⟨[.ref z], []⟩) (fun fin s' => ∃ v, fin = .done (.ret v) ∧ Q v s') E s := by
  obtain ⟨hp, g, d, tk0, os⟩ := s
  show wpAny _ _ (field (.ref z) 2 >>= _) _ _ _
  refine wpAny_bind (wpAny_field hz rfl (x := .bool true) rfl ?_)
  show wpAny _ _ (field (.ref z) 3 >>= _) _ _ _
  refine wpAny_bind (wpAny_field hz rfl (x := .ref TI) rfl ?_)
  refine wpAny_bind (wpAny_seqItems hTI rfl ?_)
  show wpAny _ _ (Builtin.SmallTypes.ownedTupleIsFree (.ref z) >>= _) _ _ _
  refine wpAny_bind ?_
  unfold Builtin.SmallTypes.ownedTupleIsFree
  refine wpAny_bind (wpAny_field hz rfl (x := .none) rfl (wpAny_pure ?_))
  simp only [if_true]
  refine wpAny_bind (wpAny_rule ?_)
  refine wpAny_bind (wpAny_field hz rfl (x := .ref TO) rfl ?_)
  refine wpAny_bind (wpAny_setField_rec hz (by simp) fun g0 hz0 hs0 => ?_)
  replace hz0 : ZC g0 z TI TO .ellipsis f1 true := hz0
  replace hs0 : Heap.SameBut z hp g0 := hs0
  refine wpAny_bind ?_
  simp only [List.zipIdx_cons, List.zipIdx_nil, List.forIn_cons, List.forIn_nil]
  refine wpAny_bind (wpAny_bind (wpAny_onRaise ?_))
  show wpAny _ _ (Builtin.SmallTypes.nextOrEnd (.ref i1)) _ _ ⟨g0, g, d, tk0, os⟩
  refine noe_item D1 hlt1 (D1.over st1 hs0 S.zf1) fun x1 p1 tk1 hx1 sn1 hp1 => ?_
  replace hp1 : Heap.SameBut i1 g0 p1 := hp1
  have hU1 : IsTupOf2 p1 TO a1 a2 := hp1.extBut _ _ S.Ti1 (hs0.extBut _ _ S.TOz hTO)
  refine wpAny_bind (wpAny_seqItems (s := ⟨p1, g, d, tk1, os⟩) hU1 rfl ?_)
  refine wpAny_bind (updateSeq_IsTupOf2 (s := ⟨p1, g, d, tk1, os⟩) hU1 fun g1 hT1 hs1 => ?_)
  replace hT1 : IsTupOf2 g1 TO x1 a2 := hT1
  replace hs1 : Heap.SameBut TO p1 g1 := hs1
  refine wpAny_bind (wpAny_letGo (wpAny_pure ?_))
  refine wpAny_bind (wpAny_bind (wpAny_onRaise ?_))
  show wpAny _ _ (Builtin.SmallTypes.nextOrEnd (.ref i2)) _ _ ⟨g1, g, d, tk1, os⟩
  refine noe_item D2 hlt2 (D2.over (D2.over (D2.over st2 hs0 S.zf2) hp1 S.sep1_2) hs1 S.Tf2) fun x2 p2 tk2 hx2 sn2 hp2 => ?_
  replace hp2 : Heap.SameBut i2 g1 p2 := hp2
  have hU2 : IsTupOf2 p2 TO x1 a2 := hp2.extBut _ _ S.Ti2 hT1
  refine wpAny_bind (wpAny_seqItems (s := ⟨p2, g, d, tk2, os⟩) hU2 rfl ?_)
  refine wpAny_bind (updateSeq_IsTupOf2 (s := ⟨p2, g, d, tk2, os⟩) hU2 fun g2 hT2 hs2 => ?_)
  replace hT2 : IsTupOf2 g2 TO x1 x2 := hT2
  replace hs2 : Heap.SameBut TO p2 g2 := hs2
  refine wpAny_bind (wpAny_letGo (wpAny_pure (wpAny_pure ?_)))
  refine wpAny_bind (wpAny_seqItems (s := ⟨g2, g, d, tk2, os⟩) hT2 rfl ?_)
  refine wpAny_bind (wpAny_newTuple ?_)
  have hsz : g2.objs.size = hp.objs.size := by rw [hs2.1, hp2.1, hs1.1, hp1.1, hs0.1]
  have hzz : ZC g2 z TI TO .ellipsis f1 true := (hs2.extBut _ _ S.TOz.symm (hp2.extBut _ _ S.zi2 (hs1.extBut _ _ S.TOz.symm (hp1.extBut _ _ S.zi1 hz0))))
  have hkk : ∀ c o, c ≠ z → c ≠ TO → c ≠ i1 → c ≠ i2 → hp.get? c = some o → g2.get? c = some o := fun c o cz cT c1 c2 e =>
    (hs2.extBut _ _ cT (hp2.extBut _ _ c2 (hs1.extBut _ _ cT (hp1.extBut _ _ c1 (hs0.extBut _ _ cz e)))))
  have hj1 : St1 (i + 1) g2 := (D1.over (D1.over (D1.over sn1 hs1 S.Tf1) hp2 S.sep2_1) hs2 S.Tf1)
  have hj2 : St2 (i + 1) g2 := (D2.over sn2 hs2 S.Tf2)
  have hzlt : z < g2.objs.size := Heap.lt_size hzz
  show wpAny _ _ (Builtin.SmallTypes.ownedTupleHandOut (.ref z) (.ref g2.objs.size) >>= _) _ _ ⟨g2.push { cls := .type "tuple", data := .seq #[x1, x2] }, g, d, tk2, os⟩
  refine wpAny_bind ?_
  unfold Builtin.SmallTypes.ownedTupleHandOut
  have hz₆ : ZC (g2.push { cls := .type "tuple", data := .seq #[x1, x2] }) z TI TO .ellipsis f1 true := Heap.get?_push_of_some _ hzz
  refine wpAny_bind (wpAny_setField_rec hz₆ (by simp) fun h₇ hz₇ hs₇ => ?_)
  replace hz₇ : ZC h₇ z TI TO (rawInt g2.objs.size) f1 true := hz₇
  refine wpAny_setField_rec hz₇ (by simp) fun h₈ hz₈ hs₈ => ?_
  replace hz₈ : ZC h₈ z TI TO (rawInt g2.objs.size) false true := hz₈
  replace hs₇ : Heap.SameBut z (g2.push { cls := .type "tuple", data := .seq #[x1, x2] }) h₇ := hs₇
  replace hs₈ : Heap.SameBut z h₇ h₈ := hs₈
  have up : ∀ c o, c ≠ z → g2.get? c = some o → h₈.get? c = some o := fun c o c1 e => hs₈.extBut _ _ c1 (hs₇.extBut _ _ c1 (Heap.get?_push_of_some _ e))
  have hT₈ : IsTupOf2 h₈ g2.objs.size x1 x2 := hs₈.extBut _ _ (Nat.ne_of_gt hzlt) (hs₇.extBut _ _ (Nat.ne_of_gt hzlt) (Heap.get?_push_size _ rfl))
  have hz8 : h₈.objs.size = g2.objs.size + 1 := by rw [hs₈.1, hs₇.1, Heap.size_push]
  rw [hsz] at hz₈ hT₈ hz8
  refine wpAny_pure ⟨_, rfl, ?_⟩
  show Q (.ref g2.objs.size) ⟨h₈, g, d, tk2, os⟩
  rw [hsz]
  exact hQ x1 x2 h₈ tk2 hx1 hx2 hz₈ (up _ _ S.TOz hT2) (D1.frame _ _ _ hj1 fun b hb o e => up b o (fun q => S.zf1 (q ▸ hb)) e) (D2.frame _ _ _ hj2 fun b hb o e => up b o (fun q => S.zf2 (q ▸ hb)) e) hT₈ hz8 fun c o cz cT c1 c2 e => up c o cz (hkk c o cz cT c1 c2 e)

/-- strict, the tuple free: both have come to their end -/
theorem s_end_free {f1 : Bool} {Q : Fin → Shared → Prop} (S : ZipSep2 z TI TO i1 i2 fp1 fp2) (D1 : Draws prog w A i1 fp1 i P1 St1) (D2 : Draws prog w A i2 fp2 i P2 St2)
    (hz : ZC s.heap z TI TO .none f1 true) (hTI : IsTupOf2 s.heap TI (.ref i1) (.ref i2)) (hTO : IsTupOf2 s.heap TO a1 a2) (st1 : St1 i s.heap) (st2 : St2 i s.heap) (hh : A.handled = none)
    (hE : ∀ h' tk e, (∀ c o, c ≠ z → c ≠ TO → c ≠ i1 → c ≠ i2 → s.heap.get? c = some o → h'.get? c = some o) → (∃ o, h'.get? e = some o ∧ o.cls = .type "StopIteration") → E (.ref e) { s with heap := h', toks := tk }) :
    wpAny (model prog w) A (Builtin.«zip.__next__» ⟨[.ref z], []⟩) Q E s := by
  obtain ⟨hp, g, d, tk0, os⟩ := s
  show wpAny _ _ (field (.ref z) 2 >>= _) _ _ _
  refine wpAny_bind (wpAny_field hz rfl (x := .bool true) rfl ?_)
  show wpAny _ _ (field (.ref z) 3 >>= _) _ _ _
  refine wpAny_bind (wpAny_field hz rfl (x := .ref TI) rfl ?_)
  refine wpAny_bind (wpAny_seqItems hTI rfl ?_)
  show wpAny _ _ (Builtin.SmallTypes.ownedTupleIsFree (.ref z) >>= _) _ _ _
  refine wpAny_bind ?_
  unfold Builtin.SmallTypes.ownedTupleIsFree
  refine wpAny_bind (wpAny_field hz rfl (x := .none) rfl (wpAny_pure ?_))
  simp only [if_true]
  refine wpAny_bind (wpAny_rule ?_)
  refine wpAny_bind (wpAny_field hz rfl (x := .ref TO) rfl ?_)
  refine wpAny_bind (wpAny_setField_rec hz (by simp) fun g0 hz0 hs0 => ?_)
  replace hz0 : ZC g0 z TI TO .ellipsis f1 true := hz0
  replace hs0 : Heap.SameBut z hp g0 := hs0
  refine wpAny_bind ?_
  simp only [List.zipIdx_cons, List.zipIdx_nil, List.forIn_cons, List.forIn_nil]
  refine wpAny_bind (wpAny_bind (wpAny_onRaise ?_))
  show wpAny _ _ (Builtin.SmallTypes.nextOrEnd (.ref i1)) _ _ ⟨g0, g, d, tk0, os⟩
  refine noe_done D1 (D1.over st1 hs0 S.zf1) fun p1 hp1 => ?_
  replace hp1 : Heap.ExtBut i1 g0 p1 := hp1
  have hz1 : ZC p1 z TI TO .ellipsis f1 true := hp1 _ _ S.zi1 hz0
  refine wpAny_bind (wpAny_setField_rec (s := ⟨p1, g, d, tk0, os⟩) hz1 (by simp) fun g1 hz2 hs1 => ?_)
  replace hs1 : Heap.SameBut z p1 g1 := hs1
  refine wpAny_bind (wpAny_bind ?_)
  wp_delta
  show wpAny (model prog w) A (forIn' [(Value.ref i2, 1)] PUnit.unit _) _ _ _
  simp only [List.forIn'_cons, List.forIn'_nil]
  refine wpAny_bind (wpAny_bind (noe_done D2 (D2.over (D2.frame _ _ _ (D2.over st2 hs0 S.zf2) fun b hb o e => hp1 b o (fun q => S.sep1_2 (q ▸ hb)) e) hs1 S.zf2) fun p2 hp2 => ?_))
  replace hp2 : Heap.ExtBut i2 g1 p2 := hp2
  refine wpAny_pure (wpAny_pure ?_)
  refine wpAny_bind (wpAny_rule (stop_ok hh fun h' e hk he => ?_))
  exact hE h' tk0 e (fun c o cz cT c1 c2 x => hk _ _ (hp2 _ _ c2 (hs1.extBut _ _ cz (hp1 _ _ c1 (hs0.extBut _ _ cz x))))) he

/-- the tuple held: an item (true) -/
theorem s_item_held {T : Addr} {f1 : Bool} {oT : Obj} {Q : Value → Shared → Prop} (S : ZipSep2 z TI TO i1 i2 fp1 fp2) (D1 : Draws prog w A i1 fp1 n1 P1 St1) (D2 : Draws prog w A i2 fp2 n2 P2 St2)
    (hz : ZC s.heap z TI TO (rawInt T) f1 true) (hT : s.heap.get? T = some oT) (hTI : IsTupOf2 s.heap TI (.ref i1) (.ref i2)) (st1 : St1 i s.heap) (st2 : St2 i s.heap) (hlt1 : i < n1) (hlt2 : i < n2)
    (hQ : ∀ x1 x2 h' tk, P1 i x1 → P2 i x2 → ZC h' z TI TO (rawInt T) true true → St1 (i + 1) h' → St2 (i + 1) h' → IsTupOf2 h' s.heap.objs.size x1 x2 → h'.objs.size = s.heap.objs.size + 1 →
      (∀ c o, c ≠ z → c ≠ i1 → c ≠ i2 → s.heap.get? c = some o → h'.get? c = some o) → Q (.ref s.heap.objs.size) { s with heap := h', toks := tk }) :
    wpAny (model prog w) A (Builtin.«zip.__next__» ⟨[.ref z], []⟩) (fun fin s' => ∃ v, fin = .done (.ret v) ∧ Q v s') E s := by
  obtain ⟨hp, g, d, tk0, os⟩ := s
  show wpAny _ _ (field (.ref z) 2 >>= _) _ _ _
  refine wpAny_bind (wpAny_field hz rfl (x := .bool true) rfl ?_)
  show wpAny _ _ (field (.ref z) 3 >>= _) _ _ _
  refine wpAny_bind (wpAny_field hz rfl (x := .ref TI) rfl ?_)
  refine wpAny_bind (wpAny_seqItems hTI rfl ?_)
  show wpAny _ _ (Builtin.SmallTypes.ownedTupleIsFree (.ref z) >>= _) _ _ _
  refine wpAny_bind (held hz hT fun g0 hz0 hs0 => ?_)
  replace hs0 : Heap.SameBut z hp g0 := hs0
  simp only [Bool.false_eq_true, if_false]
  refine wpAny_bind ?_
  rw [← Array.forIn_toList]
  simp only [List.forIn_cons, List.forIn_nil]
  refine wpAny_bind (wpAny_bind (wpAny_holding ?_))
  show wpAny _ _ (Builtin.SmallTypes.nextOrEnd (.ref i1)) _ _ ⟨g0, g, d, tk0, os⟩
  refine noe_item D1 hlt1 (D1.over st1 hs0 S.zf1) fun x1 p1 tk1 hx1 sn1 hp1 => ?_
  replace hp1 : Heap.SameBut i1 g0 p1 := hp1
  refine wpAny_pure ?_
  refine wpAny_bind (wpAny_bind (wpAny_holding ?_))
  show wpAny _ _ (Builtin.SmallTypes.nextOrEnd (.ref i2)) _ _ ⟨p1, g, d, tk1, os⟩
  refine noe_item D2 hlt2 (D2.over (D2.over st2 hs0 S.zf2) hp1 S.sep1_2) fun x2 p2 tk2 hx2 sn2 hp2 => ?_
  replace hp2 : Heap.SameBut i2 p1 p2 := hp2
  refine wpAny_pure (wpAny_pure ?_)
  show wpAny _ _ (newTuple [x1, x2] >>= _) _ _ _
  refine wpAny_bind (wpAny_newTuple ?_)
  have hsz : p2.objs.size = hp.objs.size := by rw [hp2.1, hp1.1, hs0.1]
  have hz3 : ZC p2 z TI TO (rawInt T) true true := hp2.extBut _ _ S.zi2 (hp1.extBut _ _ S.zi1 hz0)
  have hk : ∀ c o, c ≠ z → c ≠ i1 → c ≠ i2 → hp.get? c = some o → p2.get? c = some o := fun c o c1 c2 c3 e => hp2.extBut _ _ c3 (hp1.extBut _ _ c2 (hs0.extBut _ _ c1 e))
  have h13 : St1 (i + 1) p2 := D1.over sn1 hp2 S.sep2_1
  refine wpAny_pure ⟨_, rfl, ?_⟩
  show Q (.ref p2.objs.size) _
  have hpp : IsTupOf2 (p2.push { cls := .type "tuple", data := .seq #[x1, x2] }) p2.objs.size x1 x2 := Heap.get?_push_size _ rfl
  have hz4 : (p2.push { cls := .type "tuple", data := .seq #[x1, x2] }).objs.size = p2.objs.size + 1 := Heap.size_push ..
  rw [hsz] at hpp hz4 ⊢
  exact hQ _ _ _ tk2 hx1 hx2 (Heap.get?_push_of_some _ hz3) (D1.frame _ _ _ h13 fun b hb o e => Heap.get?_push_of_some _ e) (D2.frame _ _ _ sn2 fun b hb o e => Heap.get?_push_of_some _ e) hpp hz4 fun c o c1 c2 c3 e => Heap.get?_push_of_some _ (hk c o c1 c2 c3 e)

/-- the tuple held: an item (false) -/
theorem n_item_held {T : Addr} {f1 : Bool} {oT : Obj} {Q : Value → Shared → Prop} (S : ZipSep2 z TI TO i1 i2 fp1 fp2) (D1 : Draws prog w A i1 fp1 n1 P1 St1) (D2 : Draws prog w A i2 fp2 n2 P2 St2)
    (hz : ZC s.heap z TI TO (rawInt T) f1 false) (hT : s.heap.get? T = some oT) (hTI : IsTupOf2 s.heap TI (.ref i1) (.ref i2)) (st1 : St1 i s.heap) (st2 : St2 i s.heap) (hlt1 : i < n1) (hlt2 : i < n2)
    (hQ : ∀ x1 x2 h' tk, P1 i x1 → P2 i x2 → ZC h' z TI TO (rawInt T) true false → St1 (i + 1) h' → St2 (i + 1) h' → IsTupOf2 h' s.heap.objs.size x1 x2 → h'.objs.size = s.heap.objs.size + 1 →
      (∀ c o, c ≠ z → c ≠ i1 → c ≠ i2 → s.heap.get? c = some o → h'.get? c = some o) → Q (.ref s.heap.objs.size) { s with heap := h', toks := tk }) :
    wpAny (model prog w) A (Builtin.«zip.__next__» ⟨[.ref z], []⟩) (fun fin s' => ∃ v, fin = .done (.ret v) ∧ Q v s') E s := by
  obtain ⟨hp, g, d, tk0, os⟩ := s
  show wpAny _ _ (field (.ref z) 2 >>= _) _ _ _
  refine wpAny_bind (wpAny_field hz rfl (x := .bool false) rfl ?_)
  show wpAny _ _ (field (.ref z) 3 >>= _) _ _ _
  refine wpAny_bind (wpAny_field hz rfl (x := .ref TI) rfl ?_)
  refine wpAny_bind (wpAny_seqItems hTI rfl ?_)
  show wpAny _ _ (Builtin.SmallTypes.ownedTupleIsFree (.ref z) >>= _) _ _ _
  refine wpAny_bind (held hz hT fun g0 hz0 hs0 => ?_)
  replace hs0 : Heap.SameBut z hp g0 := hs0
  simp only [Bool.false_eq_true, if_false]
  refine wpAny_bind ?_
  rw [← Array.forIn_toList]
  simp only [List.forIn_cons, List.forIn_nil]
  refine wpAny_bind (wpAny_bind (wpAny_holding ?_))
  show wpAny _ _ (Builtin.SmallTypes.nextOf (.ref i1) >>= _) _ _ ⟨g0, g, d, tk0, os⟩
  refine wpAny_bind (D1.item i _ _ _ hlt1 (D1.over st1 hs0 S.zf1) fun x1 p1 tk1 hx1 sn1 hp1 => wpAny_pure ?_)
  replace hp1 : Heap.SameBut i1 g0 p1 := hp1
  refine wpAny_pure ?_
  refine wpAny_bind (wpAny_bind (wpAny_holding ?_))
  show wpAny _ _ (Builtin.SmallTypes.nextOf (.ref i2) >>= _) _ _ ⟨p1, g, d, tk1, os⟩
  refine wpAny_bind (D2.item i _ _ _ hlt2 (D2.over (D2.over st2 hs0 S.zf2) hp1 S.sep1_2) fun x2 p2 tk2 hx2 sn2 hp2 => wpAny_pure ?_)
  replace hp2 : Heap.SameBut i2 p1 p2 := hp2
  refine wpAny_pure (wpAny_pure ?_)
  show wpAny _ _ (newTuple [x1, x2] >>= _) _ _ _
  refine wpAny_bind (wpAny_newTuple ?_)
  have hsz : p2.objs.size = hp.objs.size := by rw [hp2.1, hp1.1, hs0.1]
  have hz3 : ZC p2 z TI TO (rawInt T) true false := hp2.extBut _ _ S.zi2 (hp1.extBut _ _ S.zi1 hz0)
  have hk : ∀ c o, c ≠ z → c ≠ i1 → c ≠ i2 → hp.get? c = some o → p2.get? c = some o := fun c o c1 c2 c3 e => hp2.extBut _ _ c3 (hp1.extBut _ _ c2 (hs0.extBut _ _ c1 e))
  have h13 : St1 (i + 1) p2 := D1.over sn1 hp2 S.sep2_1
  refine wpAny_pure ⟨_, rfl, ?_⟩
  show Q (.ref p2.objs.size) _
  have hpp : IsTupOf2 (p2.push { cls := .type "tuple", data := .seq #[x1, x2] }) p2.objs.size x1 x2 := Heap.get?_push_size _ rfl
  have hz4 : (p2.push { cls := .type "tuple", data := .seq #[x1, x2] }).objs.size = p2.objs.size + 1 := Heap.size_push ..
  rw [hsz] at hpp hz4 ⊢
  exact hQ _ _ _ tk2 hx1 hx2 (Heap.get?_push_of_some _ hz3) (D1.frame _ _ _ h13 fun b hb o e => Heap.get?_push_of_some _ e) (D2.frame _ _ _ sn2 fun b hb o e => Heap.get?_push_of_some _ e) hpp hz4 fun c o c1 c2 c3 e => Heap.get?_push_of_some _ (hk c o c1 c2 c3 e)

/-- the tuple held: the end (strict) -/
theorem s_end_held {T : Addr} {f1 : Bool} {oT : Obj} {Q : Fin → Shared → Prop} (S : ZipSep2 z TI TO i1 i2 fp1 fp2) (D1 : Draws prog w A i1 fp1 i P1 St1) (D2 : Draws prog w A i2 fp2 i P2 St2)
    (hz : ZC s.heap z TI TO (rawInt T) f1 true) (hT : s.heap.get? T = some oT) (hTI : IsTupOf2 s.heap TI (.ref i1) (.ref i2)) (st1 : St1 i s.heap) (st2 : St2 i s.heap) (hh : A.handled = none)
    (hE : ∀ h' tk e, (∀ c o, c ≠ z → c ≠ TO → c ≠ i1 → c ≠ i2 → s.heap.get? c = some o → h'.get? c = some o) → (∃ o, h'.get? e = some o ∧ o.cls = .type "StopIteration") → E (.ref e) { s with heap := h', toks := tk }) :
    wpAny (model prog w) A (Builtin.«zip.__next__» ⟨[.ref z], []⟩) Q E s := by
  obtain ⟨hp, g, d, tk0, os⟩ := s
  show wpAny _ _ (field (.ref z) 2 >>= _) _ _ _
  refine wpAny_bind (wpAny_field hz rfl (x := .bool true) rfl ?_)
  show wpAny _ _ (field (.ref z) 3 >>= _) _ _ _
  refine wpAny_bind (wpAny_field hz rfl (x := .ref TI) rfl ?_)
  refine wpAny_bind (wpAny_seqItems hTI rfl ?_)
  show wpAny _ _ (Builtin.SmallTypes.ownedTupleIsFree (.ref z) >>= _) _ _ _
  refine wpAny_bind (held hz hT fun g0 hz0 hs0 => ?_)
  replace hs0 : Heap.SameBut z hp g0 := hs0
  simp only [Bool.false_eq_true, if_false]
  refine wpAny_bind ?_
  rw [← Array.forIn_toList]
  simp only [List.forIn_cons, List.forIn_nil]
  refine wpAny_bind (wpAny_bind (wpAny_holding ?_))
  show wpAny _ _ (Builtin.SmallTypes.nextOrEnd (.ref i1)) _ _ ⟨g0, g, d, tk0, os⟩
  refine noe_done D1 (D1.over st1 hs0 S.zf1) fun p1 hp1 => ?_
  replace hp1 : Heap.ExtBut i1 g0 p1 := hp1
  refine wpAny_bind (wpAny_bind ?_)
  wp_delta
  show wpAny (model prog w) A (forIn' [(Value.ref i2, 1)] PUnit.unit _) _ _ _
  simp only [List.forIn'_cons, List.forIn'_nil]
  refine wpAny_bind (wpAny_bind (noe_done D2 (D2.frame _ _ _ (D2.over st2 hs0 S.zf2) fun b hb o e => hp1 b o (fun q => S.sep1_2 (q ▸ hb)) e) fun p2 hp2 => ?_))
  replace hp2 : Heap.ExtBut i2 p1 p2 := hp2
  refine wpAny_pure (wpAny_pure ?_)
  refine wpAny_bind (wpAny_rule (stop_ok hh fun h' e hk he => ?_))
  exact hE h' tk0 e (fun c o cz cT c1 c2 x => hk _ _ (hp2 _ _ c2 (hp1 _ _ c1 (hs0.extBut _ _ cz x)))) he
/-- the tuple held: the end -/
theorem n_end_held {T : Addr} {f1 : Bool} {oT : Obj} {Q : Fin → Shared → Prop} (S : ZipSep2 z TI TO i1 i2 fp1 fp2) (D1 : Draws prog w A i1 fp1 i P1 St1)
    (hz : ZC s.heap z TI TO (rawInt T) f1 false) (hT : s.heap.get? T = some oT) (hTI : IsTupOf2 s.heap TI (.ref i1) (.ref i2)) (st1 : St1 i s.heap)
    (hE : ∀ h' tk e, (∀ c o, c ≠ z → c ≠ TO → c ≠ i1 → c ≠ i2 → s.heap.get? c = some o → h'.get? c = some o) → (∃ o, h'.get? e = some o ∧ o.cls = .type "StopIteration") → E (.ref e) { s with heap := h', toks := tk }) :
    wpAny (model prog w) A (Builtin.«zip.__next__» ⟨[.ref z], []⟩) Q E s := by
  obtain ⟨hp, g, d, tk0, os⟩ := s
  show wpAny _ _ (field (.ref z) 2 >>= _) _ _ _
  refine wpAny_bind (wpAny_field hz rfl (x := .bool false) rfl ?_)
  show wpAny _ _ (field (.ref z) 3 >>= _) _ _ _
  refine wpAny_bind (wpAny_field hz rfl (x := .ref TI) rfl ?_)
  refine wpAny_bind (wpAny_seqItems hTI rfl ?_)
  show wpAny _ _ (Builtin.SmallTypes.ownedTupleIsFree (.ref z) >>= _) _ _ _
  refine wpAny_bind (held hz hT fun g0 hz0 hs0 => ?_)
  replace hs0 : Heap.SameBut z hp g0 := hs0
  simp only [Bool.false_eq_true, if_false]
  refine wpAny_bind ?_
  rw [← Array.forIn_toList]
  simp only [List.forIn_cons, List.forIn_nil]
  refine wpAny_bind (wpAny_bind (wpAny_holding ?_))
  show wpAny _ _ (Builtin.SmallTypes.nextOf (.ref i1) >>= _) _ _ ⟨g0, g, d, tk0, os⟩
  refine wpAny_bind (D1.done ⟨g0, g, d, tk0, os⟩ _ _ (D1.over st1 hs0 S.zf1) fun p1 e hp1 he => ?_)
  replace hp1 : Heap.ExtBut i1 g0 p1 := hp1
  exact hE p1 tk0 e (fun c o cz cT c1 c2 x => hp1 _ _ c1 (hs0.extBut _ _ cz x)) he
end
end K27Z

set_option maxHeartbeats 4000000
/-! zip(list, tuple), zip(tuple, tuple, strict=True) walked. -/
namespace K27Z
open PySem PySem.Spec PyProof.Rows L2
section
variable {prog : Program} {w : World} {A : Around} {E : Value → Shared → Prop} {s : Shared} {z TI TO i1 i2 : Addr} {fp1 fp2 : List Addr} {n1 n2 i : Nat} {P1 P2 : Nat → Value → Prop} {St1 St2 : Nat → Heap → Prop} {a1 a2 : Value}
theorem zty {f0 : Value} {f1 b : Bool} (hz : ZC s.heap z TI TO f0 f1 b) : s.TypeIs (.ref z) "zip" := ⟨_, hz, rfl⟩
theorem n_some {f0 : Value} {f1 b : Bool} {Q : Option Value → Shared → Prop} (hz : ZC s.heap z TI TO f0 f1 b)
    (h : ∀ E, wpAny (model prog w) A.in1 (Builtin.«zip.__next__» ⟨[.ref z], []⟩) (fun fin s' => ∃ v, fin = .done (.ret v) ∧ Q (some v) s') E s) :
    wpAny (model prog w) A (pyNext (.ref z)) Q E s := by
  have hT := zty hz
  unfold pyNext
  exact wpAny_bind (wpAny_attempt (wpAny_callSpecial?_slot (name := Str.ofString "__next__") hT F.slot_zip_next
    (wpAny_call_entry F.slot_zip_next hT F.entry_zip_next (wpAny_mono (h _) (fun fin s' ⟨v, e, q⟩ => ⟨v, e, wpAny_pure q⟩) fun _ _ x => x) (F.args_zip_next_1 _))))
theorem n_none {f0 : Value} {f1 b : Bool} {Q : Option Value → Shared → Prop} (hz : ZC s.heap z TI TO f0 f1 b)
    (h : wpAny (model prog w) A.in1 (Builtin.«zip.__next__» ⟨[.ref z], []⟩) (fun _ _ => False) (fun e s' => (∃ a, e = .ref a ∧ ∃ o, s'.heap.get? a = some o ∧ o.cls = .type "StopIteration") ∧ Q none s') s) :
    wpAny (model prog w) A (pyNext (.ref z)) Q E s := by
  have hT := zty hz
  unfold pyNext
  refine wpAny_bind (wpAny_attempt (wpAny_callSpecial?_slot (name := Str.ofString "__next__") hT F.slot_zip_next
    (wpAny_call_entry F.slot_zip_next hT F.entry_zip_next (wpAny_mono h (fun _ _ x => x.elim) fun e s' ⟨⟨a, ea, o, ho, hc⟩, q⟩ => ?_) (F.args_zip_next_1 _))))
  subst ea
  refine wpAny_bind (wpAny_isInstance (T := "StopIteration") (b := true) ⟨o, ho, hc⟩ isSubtype_stop ?_)
  exact wpAny_pure q
theorem letgo {elts : List Expr} {x1} {pos : Pos} {T : Addr} {b : Bool} {Q : Unit → Shared → Prop} (hz : ZC s.heap z TI TO (rawInt T) false b)
    (hQ : ∀ h', ZC h' z TI TO .none false b → Heap.SameBut z s.heap h' → Q () { s with heap := h' }) :
    wpAny (model prog w) A (letOwnedTupleGo (.Tuple elts x1 pos) (.ref z) (.ref T)) Q E s := by
  unfold letOwnedTupleGo
  refine wpAny_bind (wpAny_load hz ?_)
  show wpAny _ _ (if (["enumerate", "zip", "dict_itemiterator", "dict_reverseitemiterator", "odict_iterator", "itertools.zip_longest", "itertools.pairwise"].contains "zip" &&
      (#[rawInt T, .bool false, .bool b, .ref TI, .ref TO] : Array Value)[0]? == some (rawInt T)) = true then _ else _) Q E s
  rw [if_pos (by simp)]
  refine wpAny_bind (wpAny_rule ?_)
  show wpAny _ _ (setField (.ref z) 0 .none) Q E s
  exact wpAny_setField_rec hz (by simp) fun h' hz' hs' => hQ h' hz' hs'
theorem iter_self {f0 : Value} {f1 b : Bool} {Q : Value → Shared → Prop} (hz : ZC s.heap z TI TO f0 f1 b) (h : Q (.ref z) s) : wpAny (model prog w) A (pyIter (.ref z)) Q E s := by
  have hT := zty hz
  refine wpAny_pyIter_slot hT F.slot_zip_iter (wpAny_call_entry F.slot_zip_iter hT F.entry_zip_iter ?_ (F.args_zip_iter_1 _))
  show wpAny _ _ (ret (.ref z)) _ _ s
  exact wpAny_pure ⟨_, rfl, "zip", _, hT, F.slot_zip_next.lookup, h⟩
/-- an item, the tuple free -/
theorem free_item (b : Bool) {Q : Option Value → Shared → Prop} (S : ZipSep2 z TI TO i1 i2 fp1 fp2) (D1 : Draws prog w A.in1 i1 fp1 n1 P1 St1) (D2 : Draws prog w A.in1 i2 fp2 n2 P2 St2)
    (hz : ZC s.heap z TI TO .none false b) (hTI : IsTupOf2 s.heap TI (.ref i1) (.ref i2)) (hTO : IsTupOf2 s.heap TO a1 a2) (st1 : St1 i s.heap) (st2 : St2 i s.heap) (hlt1 : i < n1) (hlt2 : i < n2)
    (hQ : ∀ x1 x2 h' tk, P1 i x1 → P2 i x2 → ZC h' z TI TO (rawInt s.heap.objs.size) false b → IsTupOf2 h' TO x1 x2 → St1 (i + 1) h' → St2 (i + 1) h' → IsTupOf2 h' s.heap.objs.size x1 x2 → h'.objs.size = s.heap.objs.size + 1 →
      (∀ c o, c ≠ z → c ≠ TO → c ≠ i1 → c ≠ i2 → s.heap.get? c = some o → h'.get? c = some o) → Q (some (.ref s.heap.objs.size)) { s with heap := h', toks := tk }) :
    wpAny (model prog w) A (pyNext (.ref z)) Q E s := by
  refine n_some hz fun E => ?_
  cases b with
  | true => exact s_item_free S D1 D2 hz hTI hTO st1 st2 hlt1 hlt2 hQ
  | false => exact zipD2_next_item S D1 D2 hz hTI hTO st1 st2 hlt1 hlt2 hQ
theorem free_end (b : Bool) {Q : Option Value → Shared → Prop} (hh : A.handled = none) (S : ZipSep2 z TI TO i1 i2 fp1 fp2) (D1 : Draws prog w A.in1 i1 fp1 i P1 St1) (D2 : Draws prog w A.in1 i2 fp2 i P2 St2)
    (hz : ZC s.heap z TI TO .none false b) (hTI : IsTupOf2 s.heap TI (.ref i1) (.ref i2)) (hTO : IsTupOf2 s.heap TO a1 a2) (st1 : St1 i s.heap) (st2 : St2 i s.heap)
    (hQ : ∀ h' tk, (∀ c o, c ≠ z → c ≠ TO → c ≠ i1 → c ≠ i2 → s.heap.get? c = some o → h'.get? c = some o) → Q none { s with heap := h', toks := tk }) : wpAny (model prog w) A (pyNext (.ref z)) Q E s := by
  refine n_none hz ?_
  cases b with
  | true => exact s_end_free S D1 D2 hz hTI hTO st1 st2 hh fun h' tk e hk he => ⟨⟨e, rfl, he⟩, hQ h' tk hk⟩
  | false => exact zipD2_next_end S D1 D2 hz hTI hTO st1 st2 (Nat.le_refl _) (Nat.le_refl _) (.inl rfl) fun h' tk e hk he => ⟨⟨e, rfl, he⟩, hQ h' tk hk⟩
theorem held_item (b : Bool) {T : Addr} {f1 : Bool} {oT : Obj} {Q : Option Value → Shared → Prop} (S : ZipSep2 z TI TO i1 i2 fp1 fp2) (D1 : Draws prog w A.in1 i1 fp1 n1 P1 St1) (D2 : Draws prog w A.in1 i2 fp2 n2 P2 St2)
    (hz : ZC s.heap z TI TO (rawInt T) f1 b) (hT : s.heap.get? T = some oT) (hTI : IsTupOf2 s.heap TI (.ref i1) (.ref i2)) (st1 : St1 i s.heap) (st2 : St2 i s.heap) (hlt1 : i < n1) (hlt2 : i < n2)
    (hQ : ∀ x1 x2 h' tk, P1 i x1 → P2 i x2 → ZC h' z TI TO (rawInt T) true b → St1 (i + 1) h' → St2 (i + 1) h' → IsTupOf2 h' s.heap.objs.size x1 x2 → h'.objs.size = s.heap.objs.size + 1 →
      (∀ c o, c ≠ z → c ≠ i1 → c ≠ i2 → s.heap.get? c = some o → h'.get? c = some o) → Q (some (.ref s.heap.objs.size)) { s with heap := h', toks := tk }) :
    wpAny (model prog w) A (pyNext (.ref z)) Q E s := by
  refine n_some hz fun E => ?_
  cases b with
  | true => exact s_item_held S D1 D2 hz hT hTI st1 st2 hlt1 hlt2 hQ
  | false => exact n_item_held S D1 D2 hz hT hTI st1 st2 hlt1 hlt2 hQ
theorem held_end (b : Bool) {T : Addr} {f1 : Bool} {oT : Obj} {Q : Option Value → Shared → Prop} (hh : A.handled = none) (S : ZipSep2 z TI TO i1 i2 fp1 fp2) (D1 : Draws prog w A.in1 i1 fp1 i P1 St1) (D2 : Draws prog w A.in1 i2 fp2 i P2 St2)
    (hz : ZC s.heap z TI TO (rawInt T) f1 b) (hT : s.heap.get? T = some oT) (hTI : IsTupOf2 s.heap TI (.ref i1) (.ref i2)) (st1 : St1 i s.heap) (st2 : St2 i s.heap)
    (hQ : ∀ h' tk, (∀ c o, c ≠ z → c ≠ TO → c ≠ i1 → c ≠ i2 → s.heap.get? c = some o → h'.get? c = some o) → Q none { s with heap := h', toks := tk }) : wpAny (model prog w) A (pyNext (.ref z)) Q E s := by
  refine n_none hz ?_
  cases b with
  | true => exact s_end_held S D1 D2 hz hT hTI st1 st2 hh fun h' tk e hk he => ⟨⟨e, rfl, he⟩, hQ h' tk hk⟩
  | false => exact n_end_held S D1 hz hT hTI st1 fun h' tk e hk he => ⟨⟨e, rfl, he⟩, hQ h' tk hk⟩
end
/-- what is zipped: a list, a tuple, with its iterator at i1 -/
structure Src (P : Program) (w : World) (K : PySem.W.Frag) (i1 a : Addr) (sq : Hp → List V → Prop) (it : Nat → Heap → Prop) (st : Array Value → Heap → Prop) : Prop where
  cell : ∀ i h, it i h → ∃ o, h.get? i1 = some o ∧ ∀ v, o.data ≠ .cell v
  keep : ∀ i h h', it i h → (∀ o, h.get? i1 = some o → h'.get? i1 = some o) → it i h'
  read : ∀ (X : Cx), X.prog = P → X.w = w → X.K = K → ∀ (pins : List (Addr × Obj)) (σ : L2.St) (H : Hp) (s : Shared) (xs : List V), Inv X pins σ H s → sq H xs → ∃ its : List Value, Vals xs its ∧ st its.toArray s.heap
  inj : ∀ (X : Cx), X.prog = P → X.w = w → X.K = K → ∀ (pins : List (Addr × Obj)) (σ : L2.St) (H : Hp) (s : Shared) (xs ys : List V), Inv X pins σ H s → sq H xs → sq H ys → xs = ys
  draws : ∀ (A : Around) (items : Array Value), A.handled = none → Draws P w A i1 [i1, a] items.size (fun i v => items[i]? = some v) (fun i h => it i h ∧ st items h)
theorem srcL {P : Program} {w : World} {K : PySem.W.Frag} {i1 a : Addr} (hne : a ≠ i1) : Src P w K i1 a (fun H xs => SqL K H a xs) (fun i h => h.IsListIter i1 a i) (fun its h => h.IsList a its) where
  cell := fun i h x => by
    obtain ⟨o, e, _, d⟩ := x
    exact ⟨o, e, fun v q => by rw [d] at q; cases q⟩
  keep := fun i h h' x k => x.at fun o q => k o q
  read := fun X hP hw hK pins σ H s xs I q => by
    subst hP hw hK
    obtain ⟨its, rv, p, _⟩ := I.list q
    exact ⟨its, rv, p.isList⟩
  inj := fun X hP hw hK pins σ H s xs ys I q q' => by
    subst hP hw hK
    exact I.list_inj q q'
  draws := fun A items hh => Draws.list hh i1 a hne items
theorem srcT {P : Program} {w : World} {K : PySem.W.Frag} {i1 a : Addr} (hne : a ≠ i1) : Src P w K i1 a (fun H xs => SqT K H a xs) (fun i h => h.IsTupleIter i1 a i) (fun its h => h.IsTuple a its) where
  cell := fun i h x => by
    obtain ⟨o, e, _, d⟩ := x
    exact ⟨o, e, fun v q => by rw [d] at q; cases q⟩
  keep := fun i h h' x k => x.at fun o q => k o q
  read := fun X hP hw hK pins σ H s xs I q => by
    subst hP hw hK
    obtain ⟨its, rv, p, _⟩ := I.tuple q
    exact ⟨its, rv, p⟩
  inj := fun X hP hw hK pins σ H s xs ys I q q' => by
    subst hP hw hK
    exact I.tuple_inj q q'
  draws := fun A items hh => Draws.tuple hh i1 a hne items
/-- two of one length, their items in new pairs -/
def ItzG (sq1 sq2 : Hp → List V → Prop) : It :=
  ⟨fun i H => ∃ (xs ys : List V) (x y : V), sq1 H xs ∧ sq2 H ys ∧ xs.length = ys.length ∧ xs[i]? = some x ∧ ys[i]? = some y,
    fun i H v H' => ∃ T x y, v = .ref T ∧ H T = none ∧ H' = upd H T (.tup [x, y]) ∧ (∀ xs, sq1 H xs → xs[i]? = some x) ∧ ∀ ys, sq2 H ys → ys[i]? = some y,
    fun i H => ∃ xs ys : List V, sq1 H xs ∧ sq2 H ys ∧ xs.length = i ∧ ys.length = i⟩
theorem walk_zipG {sq1 sq2 : Hp → List V → Prop} {xs ys : List V} {n : Nat} (h1 : xs.length = n) (h2 : ys.length = n) : Walk (ItzG sq1 sq2) n (fun H => sq1 H xs ∧ sq2 H ys) (YPair (fun i => xs[i]?) (fun i => ys[i]?)) := by
  refine ⟨fun i _ hi q => ?_, fun _ q => ⟨xs, ys, q.1, q.2, h1, h2⟩, fun i H v H' _ q y => ?_⟩
  · exact ⟨xs, ys, xs[i], ys[i], q.1, q.2, by omega, by simp [h1, hi], by simp [h2, hi]⟩
  · obtain ⟨T, x, z, e1, e2, e3, e4, e5⟩ := y
    exact ⟨T, x, z, e1, e2, e3, e4 xs q.1, e5 ys q.2⟩
theorem turn_zipG {P : Program} {w : World} {K : PySem.W.Frag} {elts : List Expr} {kk : Nat} {tpos : Pos} {a c z TI TO i1 i2 : Addr} {sq1 sq2 : Hp → List V → Prop} {it1 it2 : Nat → Heap → Prop} {t1 t2 : Array Value → Heap → Prop} (b : Bool)
    (S : ZipSep2 z TI TO i1 i2 [i1, a] [i2, c]) (R1 : Src P w K i1 a sq1 it1 t1) (R2 : Src P w K i2 c sq2 it2 t2) :
    Turn P w K (.Tuple elts kk tpos) (ItzG sq1 sq2) [z, TI, TO, i1, i2] z (fun i h => ZC h z TI TO .none false b ∧ IsTupOf2 h TI (.ref i1) (.ref i2) ∧ (∃ x y, IsTupOf2 h TO x y) ∧ it1 i h ∧ it2 i h) where
  mem := by simp
  obj := fun i h st d hd => by
    obtain ⟨hz, hTI, ⟨x, y, hTO⟩, h1, h2⟩ := st
    have e' : d = z ∨ d = TI ∨ d = TO ∨ d = i1 ∨ d = i2 := by simpa using hd
    rcases e' with q | q | q | q | q
    · rw [q]; exact ⟨_, hz, fun v q => nomatch q⟩
    · rw [q]; exact ⟨_, hTI, fun v q => nomatch q⟩
    · rw [q]; exact ⟨_, hTO, fun v q => nomatch q⟩
    · rw [q]; exact R1.cell i h h1
    · rw [q]; exact R2.cell i h h2
  keep := fun i h h' st k => by
    obtain ⟨hz, hTI, ⟨x, y, hTO⟩, h1, h2⟩ := st
    exact ⟨k z (by simp) _ hz, k TI (by simp) _ hTI, ⟨x, y, k TO (by simp) _ hTO⟩, R1.keep _ _ _ h1 fun o q => k i1 (by simp) o q, R2.keep _ _ _ h2 fun o q => k i2 (by simp) o q⟩
  item := by
    intro X hP hw hK hc i pins s σ H E I hf st hg
    subst hP hw hK
    obtain ⟨hz, hTI, ⟨x0, y0, hTO⟩, h1, h2⟩ := st
    obtain ⟨xs, ys, x, y, hqx, hqy, hl, hx, hy⟩ := hg
    obtain ⟨its, rv, p⟩ := R1.read X rfl rfl rfl pins σ H s xs I hqx
    obtain ⟨its2, rv2, p2⟩ := R2.read X rfl rfl rfl pins σ H s ys I hqy
    obtain ⟨u, hu, ru⟩ := rv.get hx
    obtain ⟨u2, hu2, ru2⟩ := rv2.get hy
    have hzl : z < s.heap.objs.size := Heap.lt_size hz
    have l1 : i < its.toArray.size := by
      rw [List.size_toArray]
      exact (List.getElem?_eq_some_iff.mp hu).1
    have l2 : i < its2.toArray.size := by
      rw [List.size_toArray]
      exact (List.getElem?_eq_some_iff.mp hu2).1
    refine free_item b S (R1.draws _ its.toArray (I.ok.hd hc)) (R2.draws _ its2.toArray (I.ok.hd hc)) hz hTI hTO ⟨h1, p⟩ ⟨h2, p2⟩ l1 l2 fun x1 x2 h' tk e1 e2 z' TO' s1' s2' hT hsz hk => ?_
    have ex1 : u = x1 := by
      rw [List.getElem?_toArray, hu] at e1
      exact Option.some.inj e1
    have ex2 : u2 = x2 := by
      rw [List.getElem?_toArray, hu2] at e2
      exact Option.some.inj e2
    subst ex1 ex2
    refine ⟨_, rfl, letgo (s := { s with heap := h', toks := tk }) z' fun h'' z'' sb => ?_⟩
    have hT2 : h''.get? s.heap.objs.size = some { cls := .type "tuple", data := .seq #[u, u2] } := (sb.2 _ (Nat.ne_of_gt hzl)).trans hT
    have new : ObjOk X.prog X.w (upd H s.heap.objs.size (.tup [x, y])) h'' s.heap.objs.size (.tup [x, y]) :=
      ⟨by show 2 ≤ sizeLine; decide, [u, u2], .cons ru (.cons ru2 .nil), ⟨_, hT2, rfl, _, rfl⟩⟩
    have I1 : Inv X pins σ (upd H s.heap.objs.size (.tup [x, y])) { s with heap := h'', toks := tk } :=
      I.turnedNew (t' := tk) (ch := [z, TI, TO, i1, i2]) (fun d o hb q => (sb.2 d (fun q' => hb (by simp [q']))).trans (hk d o (fun q' => hb (by simp [q'])) (fun q' => hb (by simp [q'])) (fun q' => hb (by simp [q'])) (fun q' => hb (by simp [q'])) q)) hf (Nat.le_refl _) new
    refine ⟨.ref s.heap.objs.size, _, I1, rfl, ⟨_, x, y, rfl, I.hok.fresh (Nat.le_refl _), rfl, fun l hl => by rw [R1.inj X rfl rfl rfl pins σ H s _ _ I hl hqx]; exact hx, fun l hl => by rw [R2.inj X rfl rfl rfl pins σ H s _ _ I hl hqy]; exact hy⟩, ⟨z'', ?_, ⟨u, u2, ?_⟩, ?_, ?_⟩, fun d hdm => ?_⟩
    · exact (sb.2 _ S.TIz).trans (hk _ _ S.TIz S.TITO S.TIi1 S.TIi2 hTI)
    · exact (sb.2 _ S.TOz).trans TO'
    · exact R1.keep _ _ _ s1'.1 fun o q => (sb.2 _ S.zi1.symm).trans q
    · exact R2.keep _ _ _ s2'.1 fun o q => (sb.2 _ S.zi2.symm).trans q
    · have hlt : d < s.heap.objs.size := by
        have e' : d = z ∨ d = TI ∨ d = TO ∨ d = i1 ∨ d = i2 := by simpa using hdm
        rcases e' with q | q | q | q | q
        · rw [q]; exact hzl
        · rw [q]; exact Heap.lt_size hTI
        · rw [q]; exact Heap.lt_size hTO
        · rw [q]; obtain ⟨_, e1, _⟩ := R1.cell _ _ h1; exact Heap.lt_size e1
        · rw [q]; obtain ⟨_, e2, _⟩ := R2.cell _ _ h2; exact Heap.lt_size e2
      rw [upd_ne (Nat.ne_of_lt hlt)]
      exact (hf d hdm).1
  done := by
    intro X hP hw hK hc i pins s σ H E I hf st hg
    subst hP hw hK
    obtain ⟨hz, hTI, ⟨x0, y0, hTO⟩, h1, h2⟩ := st
    obtain ⟨xs, ys, hqx, hqy, e1, e2⟩ := hg
    obtain ⟨its, rv, p⟩ := R1.read X rfl rfl rfl pins σ H s xs I hqx
    obtain ⟨its2, rv2, p2⟩ := R2.read X rfl rfl rfl pins σ H s ys I hqy
    have l1 : its.toArray.size = i := by rw [List.size_toArray, ← rv.length, e1]
    have l2 : its2.toArray.size = i := by rw [List.size_toArray, ← rv2.length, e2]
    have d1 := R1.draws X.A.in1 its.toArray (I.ok.hd hc)
    have d2 := R2.draws X.A.in1 its2.toArray (I.ok.hd hc)
    rw [l1] at d1
    rw [l2] at d2
    exact free_end b (I.ok.hd hc) S d1 d2 hz hTI hTO ⟨h1, p⟩ ⟨h2, p2⟩ fun h' tk hk => ⟨rfl, I.turnedL (t' := tk) (ch := [z, TI, TO, i1, i2]) (fun d o hb q =>
      hk d o (fun q' => hb (by simp [q'])) (fun q' => hb (by simp [q'])) (fun q' => hb (by simp [q'])) (fun q' => hb (by simp [q'])) q) hf⟩
  self := fun A i s Q E st h => iter_self st.1 h
end K27Z

set_option maxHeartbeats 4000000
/-! zip(a, b), zip(a, b, strict=True) made. -/
namespace K27Z
open PySem PySem.Spec PyProof.Rows L2
theorem tc_strict (a b v : Value) : checkTypeCall "zip" ⟨[a, b], [(Str.ofString "strict", v)]⟩ = pure () := by kernel_rfl
theorem nc_strict (a b v : Value) : checkBuiltinCall "zip.__new__" ⟨[.type "zip", a, b], [(Str.ofString "strict", v)]⟩ = pure () := by kernel_rfl
theorem ao_strict (obj a b v : Value) : argsOk "object.__init__" ⟨[obj, a, b], [(Str.ofString "strict", v)]⟩ := by unfold argsOk; kernel_rfl
abbrev zZ (h : Heap) (o1 o2 : Obj) (b : Bool) : Heap := (gzO2 h o1 o2).push { cls := .type "zip", data := .fields #[.none, .bool false, .bool b, .ref ((h.push o1).push o2).objs.size, .ref (gzT2 h o1 o2).objs.size] }
theorem meets_strict {v1 v2 : Value} {o1 o2 : Obj} {H1 H2 : Heap → Prop} (B1 : Begins v1 o1 H1) (B2 : Begins v2 o2 H2) :
    Meets (Builtin.«zip.__new__» ⟨[.type "zip", v1, v2], [(Str.ofString "strict", .bool true)]⟩) (fun _ R s => (H1 s.heap ∧ H2 s.heap) ∧
      R (.ok (.ret (.ref (gzO2 s.heap o1 o2).objs.size))) { s with heap := zZ s.heap o1 o2 true }) :=
  .of_wp fun prog w A R s h => by
    obtain ⟨hp, g, d, tk, os⟩ := s; obtain ⟨⟨h1, h2⟩, h⟩ := h
    have hsub := sub_zip
    have q1 : ∀ {A' : Around} {E : Value → Shared → Prop} {Q : Value → Shared → Prop}, Q (.ref hp.objs.size) ⟨(hp.push o1), g, d, tk, os⟩ → wpAny (model prog w) A' (pyIter v1) Q E ⟨hp, g, d, tk, os⟩ :=
      fun q => B1.iter prog w _ _ ⟨hp, g, d, tk, os⟩ _ (B1.keeps _ _ h1 fun b o' e => e) q
    have q2 : ∀ {A' : Around} {E : Value → Shared → Prop} {Q : Value → Shared → Prop}, Q (.ref (hp.push o1).objs.size) ⟨((hp.push o1).push o2), g, d, tk, os⟩ → wpAny (model prog w) A' (pyIter v2) Q E ⟨(hp.push o1), g, d, tk, os⟩ :=
      fun q => B2.iter prog w _ _ ⟨(hp.push o1), g, d, tk, os⟩ _ (B2.keeps _ _ h2 fun b o' e => (Heap.get?_push_of_some _ e)) q
    have e2 : (Str.ofString "strict" != ("strict" : Str)) = false := by decide +kernel
    wp_walk using q1, q2
    exact ⟨_, rfl, h⟩
end K27Z

set_option maxHeartbeats 4000000
/-! zip made; walked; list(zip(..)). -/
namespace K27Z
open PySem PySem.Spec PyProof.Rows L2 PySem.W PySem.Calls
section
variable {prog : Program} {w : World} {A : Around} {E : Value → Shared → Prop} {s : Shared}
theorem sizes (h : Heap) (o1 o2 : Obj) : (h.push o1).objs.size = h.objs.size + 1 ∧ ((h.push o1).push o2).objs.size = h.objs.size + 2 ∧ (gzT2 h o1 o2).objs.size = h.objs.size + 3 ∧ (gzO2 h o1 o2).objs.size = h.objs.size + 4 := by
  have z1 : (h.push o1).objs.size = h.objs.size + 1 := by rw [Heap.size_push]
  have z2 : ((h.push o1).push o2).objs.size = h.objs.size + 2 := by rw [Heap.size_push, z1]
  have zT : (gzT2 h o1 o2).objs.size = h.objs.size + 3 := by rw [Heap.size_push, z2]
  exact ⟨z1, z2, zT, by rw [Heap.size_push, zT]⟩
/-- the new cells of a zip -/
structure Made (h h' : Heap) (o1 o2 : Obj) (b : Bool) : Prop where
  z : ZC h' (h.objs.size + 4) (h.objs.size + 2) (h.objs.size + 3) .none false b
  TI : IsTupOf2 h' (h.objs.size + 2) (.ref h.objs.size) (.ref (h.objs.size + 1))
  TO : IsTupOf2 h' (h.objs.size + 3) .none .none
  o1 : h'.get? h.objs.size = some o1
  o2 : h'.get? (h.objs.size + 1) = some o2
  sz : h'.objs.size = h.objs.size + 5
  keep : ∀ c o, h.get? c = some o → h'.get? c = some o
theorem zip_strict {v1 v2 : Value} {o1 o2 : Obj} {H1 H2 : Heap → Prop} {Q : Value → Shared → Prop} (B1 : Begins v1 o1 H1) (B2 : Begins v2 o2 H2) (h1 : H1 s.heap) (h2 : H2 s.heap)
    (h : ∀ h', Made s.heap h' o1 o2 true → Q (.ref (s.heap.objs.size + 4)) { s with heap := h' }) :
    wpAny (model prog w) A (call (.type "zip") [v1, v2] [(Str.ofString "strict", .bool true)]) Q E s := by
  refine callType_newKw F.called_zip (by decide) (tc_strict _ _ _) (nc_strict _ _ _) (fun obj => ao_strict obj _ _ _) F.entry_zip_new (meets_strict B1 B2) ⟨⟨h1, h2⟩, ?_⟩
  obtain ⟨z1, z2, zT, zO⟩ := sizes s.heap o1 o2
  have zZ' : (zZ s.heap o1 o2 true).objs.size = s.heap.objs.size + 5 := by rw [Heap.size_push, zO]
  have gZ : (zZ s.heap o1 o2 true).get? (gzO2 s.heap o1 o2).objs.size = some { cls := .type "zip", data := .fields #[.none, .bool false, .bool true, .ref ((s.heap.push o1).push o2).objs.size, .ref (gzT2 s.heap o1 o2).objs.size] } := Heap.get?_push_size _ rfl
  have gO : (zZ s.heap o1 o2 true).get? (gzT2 s.heap o1 o2).objs.size = some { cls := .type "tuple", data := .seq #[.none, .none] } := Heap.get?_push_of_some _ (Heap.get?_push_size _ rfl)
  have gT : (zZ s.heap o1 o2 true).get? ((s.heap.push o1).push o2).objs.size = some { cls := .type "tuple", data := .seq #[.ref s.heap.objs.size, .ref (s.heap.push o1).objs.size] } := Heap.get?_push_of_some _ (Heap.get?_push_of_some _ (Heap.get?_push_size _ rfl))
  have g1 : (zZ s.heap o1 o2 true).get? s.heap.objs.size = some o1 := Heap.get?_push_of_some _ (Heap.get?_push_of_some _ (Heap.get?_push_of_some _ (Heap.get?_push_of_some _ (Heap.get?_push_size _ B1.free))))
  have g2 : (zZ s.heap o1 o2 true).get? (s.heap.push o1).objs.size = some o2 := Heap.get?_push_of_some _ (Heap.get?_push_of_some _ (Heap.get?_push_of_some _ (Heap.get?_push_size _ B2.free)))
  rw [zO, zT, z2] at gZ
  rw [zT] at gO
  rw [z2, z1] at gT
  rw [z1] at g2
  show _ ∧ _
  rw [zO]
  exact ⟨⟨_, gZ, rfl⟩, h _ ⟨gZ, gT, gO, g1, g2, zZ', fun c o e => Heap.get?_push_of_some _ (Heap.get?_push_of_some _ (Heap.get?_push_of_some _ (Heap.get?_push_of_some _ (Heap.get?_push_of_some _ e))))⟩⟩
theorem zip_loose {v1 v2 : Value} {o1 o2 : Obj} {H1 H2 : Heap → Prop} {Q : Value → Shared → Prop} (B1 : Begins v1 o1 H1) (B2 : Begins v2 o2 H2) (h1 : H1 s.heap) (h2 : H2 s.heap)
    (h : ∀ h', Made s.heap h' o1 o2 false → Q (.ref (s.heap.objs.size + 4)) { s with heap := h' }) :
    wpAny (model prog w) A (call (.type "zip") [v1, v2]) Q E s :=
  zip_begins2 B1 B2 h1 h2 fun h' a b c d e f g => h h' ⟨a, b, c, d, e, f, g⟩
theorem callWith_type_kw {T : String} {env : Env} {pos : Pos} {Q : Value → Shared → Prop} {e : Expr} {rest : List Expr} {kws : List Keyword} (hall : (backToKw pos (keywordEach kws env)).all (·.1.isSome) = true)
    (h : wpAny (model prog w) A (spliced (backTo pos (starEach (e :: rest) env))) (fun vs s₁ => wpAny (model prog w) A (evalAll ((backToKw pos (keywordEach kws env)).map (·.2)))
      (fun ks s₂ => wpAny (model prog w) A (call (.type T) vs (((backToKw pos (keywordEach kws env)).filterMap (·.1)).zip ks)) Q E s₂) E s₁) E s)
    (hplain : ((backTo pos (starEach (e :: rest) env)).any (·.1) || (backToKw pos (keywordEach kws env)).any (·.1.isNone)) = false) (he : starEach (e :: rest) env = (false, eval e env) :: starEach rest env) :
    wpAny (model prog w) A (callWith pos (.type T) [] (backTo pos (starEach (e :: rest) env)) (backToKw pos (keywordEach kws env))) Q E s := by
  have h2 : wpAny (model prog w) A (evalArgs (.type T) true (backTo pos (starEach (e :: rest) env)) (backToKw pos (keywordEach kws env))) (fun a s₁ => wpAny (model prog w) A (call (.type T) ([] ++ a.pos) a.kw) Q E s₁) E s := evalArgs_kw2 hall h he
  unfold callWith
  refine wpAny_bind (wpAny_holding (wpAny_mono h2 (fun a s₁ h₁ => wpAny_bind (wpAny_standAt ?_)) fun _ _ x => x))
  simp only [hplain]
  refine wpAny_bind (wpAny_pure ?_)
  exact wpAny_bind (wpAny_mono h₁ (fun r s₂ hr => wpAny_bind (wpAny_holding (wpAny_point (wpAny_pure hr)))) fun _ _ x => x)
end
section
variable {X : Cx} {e e2 : Expr} {ta : TA} {p pos tpos kpos cpos : Pos} {elts : List Expr} {kk kb : Nat}
theorem fresh5 {pins : List (Addr × Obj)} {σ : L2.St} {H : Hp} {s : Shared} (I : Inv X pins σ H s) : ∀ c, c ∈ [s.heap.objs.size + 4, s.heap.objs.size + 2, s.heap.objs.size + 3, s.heap.objs.size, s.heap.objs.size + 1] → FpOk X pins H c := fun c hcm => by
  have e' : c = s.heap.objs.size + 4 ∨ c = s.heap.objs.size + 2 ∨ c = s.heap.objs.size + 3 ∨ c = s.heap.objs.size ∨ c = s.heap.objs.size + 1 := by simpa using hcm
  have hle : s.heap.objs.size ≤ c := by
    rcases e' with z | z | z | z | z
    · rw [z]; exact Nat.le_add_right _ _
    · rw [z]; exact Nat.le_add_right _ _
    · rw [z]; exact Nat.le_add_right _ _
    · rw [z]; exact Nat.le_refl _
    · rw [z]; exact Nat.le_add_right _ _
  exact I.fpOk hle (I.hok.fresh hle)
theorem sepN {N a c : Nat} (ha : a < N) (hc : c < N) : ZipSep2 (N + 4) (N + 2) (N + 3) N (N + 1) [N, a] [N + 1, c] :=
  zip_sep2 (N := N) (fp1 := [a]) (fp2 := [c]) (fun b hb => by rw [List.mem_singleton.mp hb]; exact ha) (fun b hb => by rw [List.mem_singleton.mp hb]; exact hc)
theorem ltup {pins : List (Addr × Obj)} {σ : L2.St} {H : Hp} {s : Shared} {a : Addr} {items : Array Value} (h : s.heap.IsTuple a items) : a < s.heap.objs.size := by
  obtain ⟨o, e, _⟩ := h
  exact Heap.lt_size e
def sqL (K : PySem.W.Frag) (a : Addr) : Hp → List V → Prop := fun H xs => SqL K H a xs
def sqT (K : PySem.W.Frag) (a : Addr) : Hp → List V → Prop := fun H xs => SqT K H a xs
/-- zip(a list, a tuple) -/
def iZipLT (K : PySem.W.Frag) (ta : TA) : TI := fun σ H R => ta σ H fun vs H1 => ∃ a c xs ys, vs = [.ref a, .ref c] ∧ SqL K H1 a xs ∧ SqT K H1 c ys ∧ R (ItzG (sqL K a) (sqT K c)) H1
/-- zip(a tuple, a tuple, strict=True) -/
def iZipTT (K : PySem.W.Frag) (ta : TA) : TI := fun σ H R => ta σ H fun vs H1 => ∃ a c xs ys, vs = [.ref a, .ref c] ∧ SqT K H1 a xs ∧ SqT K H1 c ys ∧ R (ItzG (sqT K a) (sqT K c)) H1
theorem pi_zipLT (hg : Gl X "zip") (hm : X.mg "zip" = none) (ha : PA X [e, e2] ta)
    (hs : starEach [e, e2] X.env = (false, eval e X.env) :: starEach [e2] X.env := by rfl) (hpl : (backTo pos (starEach [e2] X.env)).any (·.1) = false := by rfl) :
    PI X (.Tuple elts kk tpos) (.Call (.Name "zip" p) [e, e2] [] pos) (iZipLT X.K ta) := by
  refine ⟨fun pins s σ H R I h => ?_⟩
  refine Call_ (ld_blt I hg hm PyProof.Rows.boot_zip (PyProof.Rows.callWith_type1 (thn (ha.run pos pins s σ H _ I h) fun us s1 ⟨vs, H1, I1, r1, q1⟩ => ?_) hs hpl))
  obtain ⟨a, c, xs, ys, ex, hqx, hqy, q⟩ := q1
  subst ex
  obtain ⟨u1, u2, rfl, r, r'⟩ := vals2 r1
  cases r
  cases r'
  obtain ⟨its, rv, p1, _⟩ := I1.list hqx
  obtain ⟨its2, rv2, p2, _⟩ := I1.tuple hqy
  have l1 : a < s1.heap.objs.size := p1.lt
  have l2 : c < s1.heap.objs.size := ltup (pins := pins) (σ := σ) (H := H1) p2
  refine zip_loose (begins_list a its.toArray) (begins_tuple c its2.toArray) p1.isList p2 fun h' M => iter_self M.z ?_
  have I2 : Inv X pins σ H1 { s1 with heap := h' } := I1.kept (t' := s1.toks) M.keep
  exact ⟨s1.heap.objs.size + 4, _, _, _, H1, rfl, I2, turn_zipG false (sepN l1 l2) (srcL (Nat.ne_of_lt l1)) (srcT (Nat.ne_of_lt (Nat.lt_succ_of_lt l2))), ⟨M.z, M.TI, ⟨_, _, M.TO⟩, ⟨_, M.o1, rfl, rfl⟩, ⟨_, M.o2, rfl, rfl⟩⟩, fresh5 I1, q⟩
theorem pi_zipTT (hg : Gl X "zip") (hm : X.mg "zip" = none) (ha : PA X [e, e2] ta)
    (hs : starEach [e, e2] X.env = (false, eval e X.env) :: starEach [e2] X.env := by rfl)
    (hpl : ((backTo pos (starEach [e, e2] X.env)).any (·.1) || (backToKw pos (keywordEach [⟨some "strict", .Constant (.bool true) kb cpos, kpos⟩] X.env)).any (·.1.isNone)) = false := by rfl) :
    PI X (.Tuple elts kk tpos) (.Call (.Name "zip" p) [e, e2] [⟨some "strict", .Constant (.bool true) kb cpos, kpos⟩] pos) (iZipTT X.K ta) := by
  refine ⟨fun pins s σ H R I h => ?_⟩
  refine wpAny_Call_Name_kw (ld_blt I hg hm PyProof.Rows.boot_zip ?_)
  refine callWith_type_kw rfl (thn (ha.run pos pins s σ H _ I h) fun us s1 ⟨vs, H1, I1, r1, q1⟩ => ?_) hpl hs
  refine thn ((pk_cons (nm := some "strict") (kpos := kpos) (pe_bl (X := X) (b := true) (j := kb) (pos := cpos)) pk_nil).run pos pins s1 σ H1 (fun zs H2 => zs = [V.bl true] ∧ H2 = H1) I1 ⟨rfl, rfl⟩) fun ks s2 ⟨zs, H2, I2, r2, ez, eh⟩ => ?_
  subst ez eh
  obtain ⟨k1, rfl, rk⟩ := vals1 r2
  obtain rfl : k1 = Value.bool true := rk
  obtain ⟨a, c, xs, ys, ex, hqx, hqy, q⟩ := q1
  subst ex
  obtain ⟨u1, u2, rfl, r, r'⟩ := vals2 r1
  cases r
  cases r'
  obtain ⟨its, rv, p1, _⟩ := I2.tuple hqx
  obtain ⟨its2, rv2, p2, _⟩ := I2.tuple hqy
  have l1 : a < s2.heap.objs.size := ltup (pins := pins) (σ := σ) (H := H2) p1
  have l2 : c < s2.heap.objs.size := ltup (pins := pins) (σ := σ) (H := H2) p2
  show wpAny (model X.prog X.w) X.A (call (.type "zip") [.ref a, .ref c] [(Str.ofString "strict", .bool true)]) _ _ _
  refine zip_strict (begins_tuple a its.toArray) (begins_tuple c its2.toArray) p1 p2 fun h' M => iter_self M.z ?_
  have I3 : Inv X pins σ H2 { s2 with heap := h' } := I2.kept (t' := s2.toks) M.keep
  exact ⟨s2.heap.objs.size + 4, _, _, _, H2, rfl, I3, turn_zipG true (sepN l1 l2) (srcT (Nat.ne_of_lt l1)) (srcT (Nat.ne_of_lt (Nat.lt_succ_of_lt l2))), ⟨M.z, M.TI, ⟨_, _, M.TO⟩, ⟨_, M.o1, rfl, rfl⟩, ⟨_, M.o2, rfl, rfl⟩⟩, fresh5 I2, q⟩
end
end K27Z

set_option maxHeartbeats 4000000
/-! list(zip(a list, a tuple)), strict or not. -/
namespace K27Z
open PySem PySem.Spec PyProof.Rows L2 PySem.W PySem.Calls
theorem zip_no_len : typeLookup (.type "zip") "__len__" = pure none := by rw [typeLookup_type, builtinLookup_eq_fast]; kernel_rfl
theorem zip_no_hint : typeLookup (.type "zip") "__length_hint__" = pure none := by rw [typeLookup_type, builtinLookup_eq_fast]; kernel_rfl
/-- the pairs made so far, at rising addresses above lo -/
structure ZG (xs ys : Array Value) (lo : Addr) (h : Heap) (as : List Addr) : Prop where
  rise : as.Pairwise (· < ·)
  above : ∀ a ∈ as, lo < a
  pairs : ∀ (j : Nat) (a : Addr), as[j]? = some a → ∃ x y, xs[j]? = some x ∧ ys[j]? = some y ∧ IsTupOf2 h a x y
theorem ZG.there {xs ys : Array Value} {lo : Addr} {h : Heap} {as : List Addr} (g : ZG xs ys lo h as) {a : Addr} (ha : a ∈ as) : a < h.objs.size := by
  obtain ⟨j, hj⟩ := List.mem_iff_getElem?.mp ha
  obtain ⟨_, _, _, _, e⟩ := g.pairs j a hj
  exact Heap.lt_size e
/-- a zip that a list is filled from -/
structure ZL (b : Bool) (z TI TO i1 i2 S : Addr) (st1 st2 : Nat → Heap → Prop) (i : Nat) (h : Heap) : Prop where
  tI : IsTupOf2 h TI (.ref i1) (.ref i2)
  s1 : st1 i h
  s2 : st2 i h
  st : (ZC h z TI TO .none false b ∧ ∃ a1 a2, IsTupOf2 h TO a1 a2) ∨ ∃ (T : Addr) (f1 : Bool) (oT : Obj), ZC h z TI TO (rawInt T) f1 b ∧ h.get? T = some oT ∧ T ≠ z ∧ T ≠ TO ∧ T ≠ i1 ∧ T ≠ i2 ∧ T ≠ S
section
variable {prog : Program} {w : World} {A : Around} {E : Value → Shared → Prop} {s : Shared} {z TI TO i1 i2 S a c : Addr} {i n : Nat} {st1 st2 : Nat → Heap → Prop} {P1 P2 : Nat → Value → Prop} {b : Bool}
theorem ZL.lt (L : ZL b z TI TO i1 i2 S st1 st2 i s.heap) (D1 : Draws prog w A i1 [i1, a] n P1 st1) (D2 : Draws prog w A i2 [i2, c] n P2 st2) : z < s.heap.objs.size ∧ i1 < s.heap.objs.size ∧ i2 < s.heap.objs.size := by
  obtain ⟨_, e1⟩ := D1.live _ _ L.s1
  obtain ⟨_, e2⟩ := D2.live _ _ L.s2
  refine ⟨?_, Heap.lt_size e1, Heap.lt_size e2⟩
  rcases L.st with ⟨h, _⟩ | ⟨_, _, _, h, _⟩
  · exact Heap.lt_size h
  · exact Heap.lt_size h
theorem zl_item {Q : Option Value → Shared → Prop} (Z : ZipSep2 z TI TO i1 i2 [i1, a] [i2, c]) (D1 : Draws prog w A.in1 i1 [i1, a] n P1 st1) (D2 : Draws prog w A.in1 i2 [i2, c] n P2 st2) (L : ZL b z TI TO i1 i2 S st1 st2 i s.heap) (hTO : TO < s.heap.objs.size) (hS : S < s.heap.objs.size) (hi : i < n)
    (hQ : ∀ x1 x2 h' tk, P1 i x1 → P2 i x2 → ZL b z TI TO i1 i2 S st1 st2 (i + 1) h' → IsTupOf2 h' s.heap.objs.size x1 x2 → h'.objs.size = s.heap.objs.size + 1 → (∀ d o, d ≠ z → d ≠ TO → d ≠ i1 → d ≠ i2 → s.heap.get? d = some o → h'.get? d = some o) →
      Q (some (.ref s.heap.objs.size)) { s with heap := h', toks := tk }) : wpAny (model prog w) A (pyNext (.ref z)) Q E s := by
  obtain ⟨lz, l1, l2⟩ := L.lt D1 D2
  rcases L.st with ⟨hz, x0, y0, hT⟩ | ⟨T, f1, oT, hz, hT, n1, n2, n3, n4, n5⟩
  · refine free_item b Z D1 D2 hz L.tI hT L.s1 L.s2 hi hi fun x1 x2 h' tk p1 p2 z' T' q1 q2 hp hsz hk => hQ x1 x2 h' tk p1 p2 ⟨hk _ _ Z.TIz Z.TITO Z.TIi1 Z.TIi2 L.tI, q1, q2, .inr ⟨_, _, _, z', hp, Nat.ne_of_gt lz, Nat.ne_of_gt hTO, Nat.ne_of_gt l1, Nat.ne_of_gt l2, Nat.ne_of_gt hS⟩⟩ hp hsz hk
  · refine held_item b Z D1 D2 hz hT L.tI L.s1 L.s2 hi hi fun x1 x2 h' tk p1 p2 z' q1 q2 hp hsz hk => hQ x1 x2 h' tk p1 p2 ⟨hk _ _ Z.TIz Z.TIi1 Z.TIi2 L.tI, q1, q2, .inr ⟨_, _, _, z', hk _ _ n1 n3 n4 hT, n1, n2, n3, n4, n5⟩⟩ hp hsz fun d o d1 _ d3 d4 e => hk d o d1 d3 d4 e
theorem zl_done {Q : Option Value → Shared → Prop} (hh : A.handled = none) (Z : ZipSep2 z TI TO i1 i2 [i1, a] [i2, c]) (D1 : Draws prog w A.in1 i1 [i1, a] n P1 st1) (D2 : Draws prog w A.in1 i2 [i2, c] n P2 st2) (L : ZL b z TI TO i1 i2 S st1 st2 n s.heap)
    (hQ : ∀ h' tk, (∀ d o, d ≠ z → d ≠ TO → d ≠ i1 → d ≠ i2 → s.heap.get? d = some o → h'.get? d = some o) → Q none { s with heap := h', toks := tk }) : wpAny (model prog w) A (pyNext (.ref z)) Q E s := by
  rcases L.st with ⟨hz, x0, y0, hT⟩ | ⟨T, f1, oT, hz, hT, n1, n2, n3, n4, n5⟩
  · exact free_end b hh Z D1 D2 hz L.tI hT L.s1 L.s2 hQ
  · exact held_end b hh Z D1 D2 hz hT L.tI L.s1 L.s2 hQ
/-- the cells stand when others change -/
theorem ZL.keeps {h h' : Heap} (D1 : Draws prog w A i1 [i1, a] n P1 st1) (D2 : Draws prog w A i2 [i2, c] n P2 st2) (L : ZL b z TI TO i1 i2 S st1 st2 i h) (hc : S ≠ z ∧ S ≠ TI ∧ S ≠ TO ∧ S ≠ i1 ∧ S ≠ i2 ∧ S ≠ a ∧ S ≠ c)
    (k : ∀ d o, d ≠ S → h.get? d = some o → h'.get? d = some o) : ZL b z TI TO i1 i2 S st1 st2 i h' := by
  obtain ⟨c1, c2, c3, c4, c5, c6, c7⟩ := hc
  refine ⟨k _ _ c2.symm L.tI, D1.frame _ _ _ L.s1 fun d hd o e => k d o (fun q => ?_) e, D2.frame _ _ _ L.s2 fun d hd o e => k d o (fun q => ?_) e, ?_⟩
  · rw [q] at hd
    rcases List.mem_cons.mp hd with e | hd
    · exact c4 e
    · exact c6 (List.mem_singleton.mp hd)
  · rw [q] at hd
    rcases List.mem_cons.mp hd with e | hd
    · exact c5 e
    · exact c7 (List.mem_singleton.mp hd)
  · rcases L.st with ⟨hz, x0, y0, hT⟩ | ⟨T, f1, oT, hz, hT, n1, n2, n3, n4, n5⟩
    · exact .inl ⟨k _ _ c1.symm hz, x0, y0, k _ _ c3.symm hT⟩
    · exact .inr ⟨T, f1, oT, k _ _ c1.symm hz, k _ _ n5 hT, n1, n2, n3, n4, n5⟩
end
section
variable {prog : Program} {w : World} {A : Around} {s : Shared} {R : Result → Shared → Prop} {z TI TO i1 i2 S a c : Addr} {n : Nat} {st1 st2 : Nat → Heap → Prop} {b : Bool} {xs ys : Array Value}
theorem zl_loop (hh : A.handled = none) (Z : ZipSep2 z TI TO i1 i2 [i1, a] [i2, c]) (D1 : Draws prog w A.in1.in1 i1 [i1, a] n (fun i v => xs[i]? = some v) st1) (D2 : Draws prog w A.in1.in1 i2 [i2, c] n (fun i v => ys[i]? = some v) st2)
    (hc : S ≠ z ∧ S ≠ TI ∧ S ≠ TO ∧ S ≠ i1 ∧ S ≠ i2 ∧ S ≠ a ∧ S ≠ c) (low : z < S ∧ TO < S ∧ i1 < S ∧ i2 < S) (hn : n ≤ sizeLine) (res : Value) {h₁ : Heap}
    (hR : ∀ h' tk acc k as, (∀ d o, d ≠ S → d ≠ z → d ≠ TO → d ≠ i1 → d ≠ i2 → h₁.get? d = some o → h'.get? d = some o) → h'.get? S = some { cls := .type "list", dict := none, data := .seq acc k, slots := #[] } → as.length = n → ZG xs ys S h' as →
      acc.toList = as.map Value.ref → R (.ok (.ret res)) { s with heap := h', toks := tk }) :
    ∀ (k i : Nat) (h : Heap) (tk ct : Nat) (acc : Array Value) (as : List Addr), n - i = k → i ≤ n → ZL b z TI TO i1 i2 S st1 st2 i h → (∀ d o, d ≠ S → d ≠ z → d ≠ TO → d ≠ i1 → d ≠ i2 → h₁.get? d = some o → h.get? d = some o) →
      h.get? S = some { cls := .type "list", dict := none, data := .seq acc ct, slots := #[] } → acc.toList = as.map Value.ref → as.length = i → ZG xs ys S h as →
      codeAny (model prog w) A (.builtin "list.extend.loop" ⟨[.ref S, .ref z, res], []⟩) R { s with heap := h, toks := tk } := by
  obtain ⟨lz, lT, l1, l2⟩ := low
  intro k
  induction k with
  | zero =>
    intro i h tk ct acc as hk hi L hkeep hS hacc hal hG
    have hin : i = n := by omega
    subst hin
    refine codeAny_builtin PySem.F.entry_extend_loop ?_
    rw [Around.under_plainId PySem.F.plain_extend_loop _]
    show wpAny _ A.in1 (pyNext (.ref z) >>= _) _ _ _
    refine wpAny_bind (zl_done (s := { s with heap := h, toks := tk }) (A := A.in1) hh Z D1 D2 L fun h' tk' he => ?_)
    refine wpAny_pure (hR h' tk' acc ct as (fun d o d1 d2 d3 d4 d5 e => he d o d2 d3 d4 d5 (hkeep d o d1 d2 d3 d4 d5 e)) (he S _ hc.1 hc.2.2.1 hc.2.2.2.1 hc.2.2.2.2.1 hS) hal ⟨hG.rise, hG.above, fun j d hj => ?_⟩ hacc)
    obtain ⟨x, y, e1, e2, e3⟩ := hG.pairs j d hj
    have up := hG.above d (List.mem_of_getElem? hj)
    exact ⟨x, y, e1, e2, he d _ (Nat.ne_of_gt (Nat.lt_trans lz up)) (Nat.ne_of_gt (Nat.lt_trans lT up)) (Nat.ne_of_gt (Nat.lt_trans l1 up)) (Nat.ne_of_gt (Nat.lt_trans l2 up)) e3⟩
  | succ k ih =>
    intro i h tk ct acc as hk hi L hkeep hS hacc hal hG
    have hlt : i < n := by omega
    have hsz : acc.size = i := by rw [← Array.length_toList, hacc, List.length_map, hal]
    have hSl : S < h.objs.size := Heap.lt_size hS
    refine codeAny_builtin PySem.F.entry_extend_loop ?_
    rw [Around.under_plainId PySem.F.plain_extend_loop _]
    show wpAny _ A.in1 (pyNext (.ref z) >>= _) _ _ _
    refine wpAny_bind (zl_item (s := { s with heap := h, toks := tk }) Z D1 D2 L (Nat.lt_trans lT hSl) hSl hlt fun x1 x2 h' tk' p1 p2 L' ht hz hkp => ?_)
    dsimp only at ht hz hkp ⊢
    have hS' := hkp S _ hc.1 hc.2.2.1 hc.2.2.2.1 hc.2.2.2.2.1 hS
    have up : ∀ d o, d ≠ S → h'.get? d = some o → (h'.update S (Obj.mapSeq (·.push (Value.ref h.objs.size)))).get? d = some o := fun d o hb e => (Heap.get?_update_other _ _ (Ne.symm hb)).trans e
    show wpAny _ A.in1 (updateSeq S (·.push (Value.ref h.objs.size)) >>= _) _ _ _
    refine wpAny_bind ?_
    refine wpAny_updateSeq hS' rfl (wpAny_pure ⟨plainId_quiet PySem.F.plain_extend_loop _, ih (i + 1) _ tk' _ (acc.push (Value.ref h.objs.size)) (as ++ [h.objs.size]) (by omega) hlt (L'.keeps D1 D2 hc up)
      (fun d o d1 d2 d3 d4 d5 e => up d o d1 (hkp d o d2 d3 d4 d5 (hkeep d o d1 d2 d3 d4 d5 e))) (Heap.get?_update_self _ hS' rfl) (by rw [Array.toList_push, hacc, List.map_append]; rfl) (by rw [List.length_append, hal]; rfl) ⟨?_, ?_, ?_⟩⟩) (by rw [hsz]; omega) (by show (acc.push (Value.ref h.objs.size)).size ≤ sizeLine + 1; rw [Array.size_push, hsz]; omega)
    · refine List.pairwise_append.mpr ⟨hG.rise, List.pairwise_singleton _ _, fun d ha d' hb => ?_⟩
      rw [List.mem_singleton.mp hb]
      exact hG.there ha
    · intro d ha
      rcases List.mem_append.mp ha with ha | ha
      · exact hG.above d ha
      · rw [List.mem_singleton.mp ha]; exact hSl
    · intro j d hj
      rcases Nat.lt_trichotomy j as.length with h1 | h1 | h1
      · rw [List.getElem?_append_left h1] at hj
        obtain ⟨x, y, e1, e2, e3⟩ := hG.pairs j d hj
        have ab := hG.above d (List.mem_of_getElem? hj)
        exact ⟨x, y, e1, e2, up d _ (Nat.ne_of_gt ab) (hkp d _ (Nat.ne_of_gt (Nat.lt_trans lz ab)) (Nat.ne_of_gt (Nat.lt_trans lT ab)) (Nat.ne_of_gt (Nat.lt_trans l1 ab)) (Nat.ne_of_gt (Nat.lt_trans l2 ab)) e3)⟩
      · subst h1
        have hb : h.objs.size = d := by simpa using hj
        subst hb
        subst hal
        exact ⟨x1, x2, p1, p2, up _ _ (Nat.ne_of_gt hSl) ht⟩
      · have hnone : (as ++ [h.objs.size])[j]? = none := List.getElem?_eq_none (by rw [List.length_append, List.length_singleton]; omega)
        rw [hnone] at hj; cases hj
theorem zl_call {E : Value → Shared → Prop} {Q : Value → Shared → Prop} (hh : A.handled = none) (Z : ZipSep2 z TI TO i1 i2 [i1, a] [i2, c]) (D1 : ∀ A', A'.handled = none → Draws prog w A' i1 [i1, a] n (fun i v => xs[i]? = some v) st1) (D2 : ∀ A', A'.handled = none → Draws prog w A' i2 [i2, c] n (fun i v => ys[i]? = some v) st2)
    (hz : ZC s.heap z TI TO .none false b) (hTI : IsTupOf2 s.heap TI (.ref i1) (.ref i2)) (hTO : ∃ a1 a2, IsTupOf2 s.heap TO a1 a2) (h1 : st1 0 s.heap) (h2 : st2 0 s.heap) (la : a < s.heap.objs.size) (lc : c < s.heap.objs.size) (hn : n ≤ sizeLine)
    (hQ : ∀ h' tk acc k as, (∀ d o, d ≠ z → d ≠ TO → d ≠ i1 → d ≠ i2 → s.heap.get? d = some o → h'.get? d = some o) → h'.get? s.heap.objs.size = some { cls := .type "list", dict := none, data := .seq acc k, slots := #[] } → as.length = n → ZG xs ys s.heap.objs.size h' as →
      acc.toList = as.map Value.ref → Q (.ref s.heap.objs.size) { s with heap := h', toks := tk }) :
    wpAny (model prog w) A (call (.type "list") [.ref z]) Q E s := by
  obtain ⟨x0, y0, hTO⟩ := hTO
  have lz : z < s.heap.objs.size := Heap.lt_size hz
  have lTI : TI < s.heap.objs.size := Heap.lt_size hTI
  have lTO : TO < s.heap.objs.size := Heap.lt_size hTO
  have l1 : i1 < s.heap.objs.size := by
    obtain ⟨_, e⟩ := (D1 A hh).live _ _ h1
    exact Heap.lt_size e
  have l2 : i2 < s.heap.objs.size := by
    obtain ⟨_, e⟩ := (D2 A hh).live _ _ h2
    exact Heap.lt_size e
  refine callType_codes (Q₁ := fun obj s₁ => obj = .ref s.heap.objs.size ∧ s₁ = { s with heap := s.heap.push { cls := .type "list", data := .seq #[] } }) PySem.F.called_list (PySem.F.typeCall_list_1 _) PySem.F.entry_list_init
    (code_list_new _ ⟨rfl, rfl⟩) fun obj s₁ hs₁ => ?_
  obtain ⟨rfl, rfl⟩ := hs₁
  have hS : (s.heap.push { cls := .type "list", data := .seq #[] }).get? s.heap.objs.size = some { cls := .type "list", data := .seq #[] } := Heap.get?_push_size _ rfl
  refine ⟨⟨_, hS, rfl⟩, PySem.F.args_list_init_2 _ _, ?_⟩
  generalize hSd : s.heap.objs.size = S at *
  have hc : S ≠ z ∧ S ≠ TI ∧ S ≠ TO ∧ S ≠ i1 ∧ S ≠ i2 ∧ S ≠ a ∧ S ≠ c := ⟨Nat.ne_of_gt lz, Nat.ne_of_gt lTI, Nat.ne_of_gt lTO, Nat.ne_of_gt l1, Nat.ne_of_gt l2, Nat.ne_of_gt la, Nat.ne_of_gt lc⟩
  have L0 : ZL b z TI TO i1 i2 S st1 st2 0 s.heap := ⟨hTI, h1, h2, .inl ⟨hz, x0, y0, hTO⟩⟩
  have L1 : ∀ h : Heap, (∀ d o, d ≠ S → s.heap.get? d = some o → h.get? d = some o) → ZL b z TI TO i1 i2 S st1 st2 0 h := fun h k => L0.keeps (D1 A hh) (D2 A hh) hc k
  have key : ∀ (h : Heap) (ct tk : Nat), (∀ d o, d ≠ S → s.heap.get? d = some o → h.get? d = some o) → h.get? S = some { cls := .type "list", data := .seq #[] ct } →
      codeAny (model prog w) A.in1 (.builtin "list.extend.loop" ⟨[.ref S, .ref z, .none], []⟩) (wants (fun r s₂ => r = Value.none ∧ Q (Value.ref S) s₂) E) { s with heap := h, toks := tk } := by
    intro h ct tk hk hS₁
    refine zl_loop (s := s) (A := A.in1) (h₁ := s.heap) hh Z (D1 _ hh) (D2 _ hh) hc ⟨lz, lTO, l1, l2⟩ hn .none (fun h' tk' acc k as hk' hS' hl hG hacc => ⟨rfl, hQ h' tk' acc k as (fun d o d1 d2 d3 d4 e => hk' d o (fun q => ?_) d1 d2 d3 d4 e) hS' hl hG hacc⟩)
      n 0 h tk ct #[] [] (Nat.sub_zero _) (Nat.zero_le _) (L1 h hk) (fun d o d1 _ _ _ _ e => hk d o d1 e) hS₁ rfl rfl ⟨List.Pairwise.nil, (fun _ ha => nomatch ha), (fun j a hj => by simp at hj)⟩
    rw [q] at e
    exact absurd (Heap.lt_size e) (by rw [hSd]; exact Nat.lt_irrefl _)
  have k0 : ∀ d o, d ≠ S → s.heap.get? d = some o → (s.heap.push { cls := .type "list", data := .seq #[] }).get? d = some o := fun d o _ e => Heap.get?_push_of_some _ e
  show wpAny _ _ (do let old ← Builtin.List.listItems (.ref S); Builtin.List.listUpdate (.ref S) (fun _ => #[]); letGo old.toList.reverse; Builtin.List.listExtendWith (.ref S) (.ref z) .none) _ _ _
  refine wpAny_bind ?_
  unfold Builtin.List.listItems
  refine wpAny_bind (wpAny_seqItems hS rfl (wpAny_pure ?_))
  show wpAny _ _ (updateSeq S (fun _ => #[]) >>= fun _ => letGo (#[] : Array Value).toList.reverse >>= fun _ => Builtin.List.listExtendWith (.ref S) (.ref z) .none) _ _ _
  refine wpAny_bind (wpAny_updateSeq hS rfl ?_)
  have hS₂ := Heap.get?_update_self (Obj.mapSeq (fun _ => (#[] : Array Value))) hS rfl
  have k1 : ∀ d o, d ≠ S → s.heap.get? d = some o → ((s.heap.push { cls := .type "list", data := .seq #[] }).update S (Obj.mapSeq (fun _ => (#[] : Array Value)))).get? d = some o :=
    fun d o hb e => (Heap.get?_update_other _ _ (Ne.symm hb)).trans (k0 d o hb e)
  refine wpAny_bind (wpAny_letGo ?_)
  generalize hg1 : (s.heap.push { cls := .type "list", data := .seq #[] }).update S (Obj.mapSeq (fun _ => (#[] : Array Value))) = g1 at k1 hS₂ ⊢
  have hzz : ∃ f0 f1, ZC g1 z TI TO f0 f1 b := ⟨_, _, k1 _ _ hc.1.symm hz⟩
  obtain ⟨f0, f1, hzz⟩ := hzz
  unfold Builtin.List.listExtendWith
  refine wpAny_bind (wpAny_typeOf (T := "zip") (zty (s := { s with heap := g1 }) hzz) ?_)
  have e1 : Builtin.List.listSameRef (.ref S) (.ref z) = false := by simp [Builtin.List.listSameRef, hc.1]
  have e2 : (Value.type "zip" == Value.type "list") = false := by decide
  have e3 : (Value.type "zip" == Value.type "tuple") = false := by decide
  simp only [e1, e2, e3, Bool.or_false, Bool.false_eq_true, if_false]
  refine wpAny_bind (iter_self (s := { s with heap := g1 }) hzz ?_)
  refine wpAny_bind (wpAny_holding ?_)
  unfold Builtin.List.listLengthHint
  refine wpAny_bind (wpAny_specialOf (zty (s := { s with heap := g1 }) hzz) zip_no_len ?_)
  show wpAny _ A.in1.in1 (specialOf (Value.ref z) (Str.ofString "__length_hint__") >>= _) _ _ _
  refine wpAny_bind (wpAny_specialOf (zty (s := { s with heap := g1 }) hzz) zip_no_hint ?_)
  refine wpAny_pure ?_
  show wpAny _ A.in1.in1 (rule "list.extend.makes-room" >>= fun _ => Builtin.List.listTouch (.ref S) >>= fun _ =>
    again (.builtin "list.extend.loop" ⟨[.ref S, .ref z, .none], []⟩)) _ _ _
  refine wpAny_bind (wpAny_rule ?_)
  refine wpAny_bind ?_
  show wpAny _ A.in1.in1 (updateSeq S (·.push .none) >>= fun _ => updateSeq S (·.pop)) _ _ _
  refine wpAny_bind (wpAny_updateSeq hS₂ rfl ?_)
  have hS₃ := Heap.get?_update_self (Obj.mapSeq (·.push Value.none)) hS₂ rfl
  refine wpAny_updateSeq (hz := by seq_fits) hS₃ rfl ?_
  have hS₄ := Heap.get?_update_self (Obj.mapSeq (·.pop)) hS₃ rfl
  refine wpAny_pure ⟨plainId_quiet PySem.F.plain_extend_loop _, key _ _ _ (fun d o hb e => ?_) hS₄⟩
  exact (Heap.get?_update_other _ _ (Ne.symm hb)).trans ((Heap.get?_update_other _ _ (Ne.symm hb)).trans (k1 d o hb e))
end
/-! over the layer -/
/-- the tuples tracked at their addresses -/
def putP : Hp → List Addr → List (V × V) → Hp
  | H, a :: as, p :: ps => putP (upd H a (.tup [p.1, p.2])) as ps
  | H, _, _ => H
theorem putP_off {b : Addr} : ∀ (as : List Addr) (ps : List (V × V)) (H : Hp), b ∉ as → putP H as ps b = H b
  | [], _, _, _ => rfl
  | _ :: _, [], _, _ => rfl
  | a :: as, p :: ps, H, h => by
    show putP (upd H a (.tup [p.1, p.2])) as ps b = H b
    rw [putP_off as ps _ (fun z => h (List.mem_cons_of_mem _ z)), upd_ne (fun z => h (by rw [z]; exact List.mem_cons_self))]
theorem putP_at : ∀ (as : List Addr) (ps : List (V × V)) (H : Hp), as.length = ps.length → as.Nodup → Paired (fun (t : Addr) (p : V × V) => putP H as ps t = some (.tup [p.1, p.2])) as ps
  | [], [], _, _, _ => .nil
  | [], _ :: _, _, h, _ => by cases h
  | _ :: _, [], _, h, _ => by cases h
  | a :: as, p :: ps, H, h, hn => by
    have hn' := List.nodup_cons.mp hn
    have ih := putP_at as ps (upd H a (.tup [p.1, p.2])) (Nat.succ.inj h) hn'.2
    refine .cons ?_ ih
    show putP (upd H a (.tup [p.1, p.2])) as ps a = some (.tup [p.1, p.2])
    rw [putP_off as ps _ hn'.1, upd_same]
/-- the list of the pairs: new at p, the pairs new at ts -/
def rPairs (H : Hp) (ps : List (V × V)) (Q : VK) : Prop := ∀ (H' : Hp) (p : Addr) (ts : List Addr), (∀ b o, H b = some o → H' b = some o) → H p = none → (∀ t ∈ ts, H t = none) → p ∉ ts → H' p = some (.lst (ts.map V.ref)) →
  Paired (fun (t : Addr) (q : V × V) => H' t = some (.tup [q.1, q.2])) ts ps → Q (.ref p) H'
section
variable {X : Cx} {e e2 : Expr} {ta : TA} {p p2 pos pos2 kpos cpos : Pos} {kb : Nat}
theorem laid {pins : List (Addr × Obj)} {σ : L2.St} {H : Hp} {s : Shared} {h' : Heap} {tk k : Nat} {S : Addr} {xs ys : List V} {its its2 : List Value} {acc : Array Value} {as : List Addr} (I : Inv X pins σ H s) (rv : Vals xs its) (rv2 : Vals ys its2) (hl : xs.length = ys.length) (hz : xs.length ≤ sizeLine)
    (hk : ∀ b o, s.heap.get? b = some o → h'.get? b = some o) (hSz : s.heap.objs.size ≤ S) (hS : h'.get? S = some { cls := .type "list", dict := none, data := .seq acc k, slots := #[] }) (ha : as.length = xs.length)
    (hG : ZG its.toArray its2.toArray S h' as) (hacc : acc.toList = as.map Value.ref) :
    ∃ H' : Hp, (∀ b o, H b = some o → H' b = some o) ∧ H S = none ∧ (∀ t ∈ as, H t = none) ∧ S ∉ as ∧ H' S = some (.lst (as.map V.ref)) ∧ Paired (fun (t : Addr) (q : V × V) => H' t = some (.tup [q.1, q.2])) as (xs.zip ys) ∧ Inv X pins σ H' { s with heap := h', toks := tk } := by
  have lz : as.length = (xs.zip ys).length := by rw [List.length_zip]; omega
  have hSn : S ∉ as := fun z => Nat.lt_irrefl _ (hG.above _ z)
  have nd : as.Nodup := List.Pairwise.imp (fun {a b} (h : a < b) => Nat.ne_of_lt h) hG.rise
  have new : ∀ t ∈ as, H t = none := fun t ht => I.hok.fresh (Nat.le_trans hSz (Nat.le_of_lt (hG.above t ht)))
  have newS : H S = none := I.hok.fresh hSz
  have atP := putP_at as (xs.zip ys) (upd H S (.lst (as.map V.ref))) lz nd
  have off : ∀ b, b ∉ as → b ≠ S → putP (upd H S (.lst (as.map V.ref))) as (xs.zip ys) b = H b := fun b h1 h2 => by rw [putP_off as _ _ h1, upd_ne h2]
  have low : ∀ b o, s.heap.get? b = some o → b ∉ as ∧ b ≠ S := fun b o e => ⟨fun z => absurd (Heap.lt_size e) (Nat.not_lt.mpr (Nat.le_trans hSz (Nat.le_of_lt (hG.above b z)))), Nat.ne_of_lt (Nat.lt_of_lt_of_le (Heap.lt_size e) hSz)⟩
  have kp : ∀ b u, H b = some u → (putP (upd H S (.lst (as.map V.ref))) as (xs.zip ys)) b = some u := fun b u e => by
    rw [off b (fun z => by rw [new b z] at e; cases e) (fun z => by rw [z, newS] at e; cases e)]
    exact e
  have eS : putP (upd H S (.lst (as.map V.ref))) as (xs.zip ys) S = some (.lst (as.map V.ref)) := by rw [putP_off as _ _ hSn, upd_same]
  refine ⟨putP (upd H S (.lst (as.map V.ref))) as (xs.zip ys), kp, newS, new, hSn, eS, atP, ?_⟩
  refine I.call' (ch := []) rfl ⟨fun b o q _ _ _ => hk b o q, fun b o q _ _ _ => ⟨o.slots, hk b o q⟩, fun b o q n _ => ?_, fun b o q _ => ⟨o, hk b o q⟩, fun b xs q => kp b _ q, fun b o u q => kp b _ q, fun b ps q => ⟨#[], by rw [kp b _ q]; simp⟩⟩ (fun b u q => ?_) I.bare fun b z => by simp at z
  · obtain ⟨z1, z2⟩ := low b o q
    rw [off b z1 z2]
    exact n
  · by_cases hb : b ∈ as
    · obtain ⟨j, pk, e1, e2, e3⟩ := LiI.paired_ix atP hb
      rw [e3] at q
      cases q
      obtain ⟨x, y, f1, f2, f3⟩ := hG.pairs j b e1
      obtain ⟨jx, jy⟩ := List.getElem?_zip_eq_some.mp e2
      obtain ⟨u1, g1, r1⟩ := rv.get jx
      obtain ⟨u2, g2, r2⟩ := rv2.get jy
      rw [List.getElem?_toArray, g1] at f1
      rw [List.getElem?_toArray, g2] at f2
      cases f1
      cases f2
      exact ⟨by show 2 ≤ sizeLine; decide, _, .cons r1 (.cons r2 .nil), ⟨_, f3, rfl, _, rfl⟩⟩
    · by_cases hb2 : b = S
      · rw [hb2] at q ⊢
        rw [eS] at q
        cases q
        refine ⟨by rw [List.length_map]; omega, acc.toList, k, by rw [hacc]; exact LiI.vals_refs as, ?_⟩
        rw [Array.toArray_toList]
        exact hS
      · rw [off b hb hb2] at q
        exact (I.hok b u q).stay (fun d v _ y => hk d v y) (fun d y => kp d _ y) fun d xs y => kp d _ y
/-- list(zip(xs, ys)), xs a list, ys a tuple of its length -/
def tLZip (K : PySem.W.Frag) (ta : TA) : TE := fun σ H Q => ta σ H fun vs H1 => ∃ a c xs ys, vs = [.ref a, .ref c] ∧ SqL K H1 a xs ∧ SqT K H1 c ys ∧ xs.length = ys.length ∧ rPairs H1 (xs.zip ys) Q
theorem ended {b : Bool} {A : Around} {E : Value → Shared → Prop} {pins : List (Addr × Obj)} {σ : L2.St} {H1 : Hp} {s1 : Shared} {a c : Addr} {xs ys : List V} {its its2 : List Value} {Q : VK} {h' : Heap} (hA : A.handled = none) (I1 : Inv X pins σ H1 s1) (rv : Vals xs its) (rv2 : Vals ys its2) (hl : xs.length = ys.length) (hz : xs.length ≤ sizeLine)
    (p1 : s1.heap.IsList a its.toArray) (p2 : s1.heap.IsTuple c its2.toArray) (l1 : a < s1.heap.objs.size) (l2 : c < s1.heap.objs.size) (M : Made s1.heap h' { cls := .type "list_iterator", data := .fields #[.ref a, .int 0 0] } { cls := .type "tuple_iterator", data := .fields #[.ref c, .int 0 0] } b) (q : rPairs H1 (xs.zip ys) Q) :
    wpAny (model X.prog X.w) A (call (.type "list") [.ref (s1.heap.objs.size + 4)]) (EP X pins σ Q) E { s1 with heap := h' } := by
  have n1 : its.toArray.size = xs.length := by rw [List.size_toArray, ← rv.length]
  have n2 : its2.toArray.size = xs.length := by rw [List.size_toArray, ← rv2.length, hl]
  have d1 : ∀ A', A'.handled = none → Draws X.prog X.w A' s1.heap.objs.size [s1.heap.objs.size, a] xs.length (fun i v => its.toArray[i]? = some v) (fun i h => h.IsListIter s1.heap.objs.size a i ∧ h.IsList a its.toArray) := fun A' hh => by
    rw [← n1]
    exact Draws.list hh _ a (Nat.ne_of_lt l1) its.toArray
  have d2 : ∀ A', A'.handled = none → Draws X.prog X.w A' (s1.heap.objs.size + 1) [s1.heap.objs.size + 1, c] xs.length (fun i v => its2.toArray[i]? = some v) (fun i h => h.IsTupleIter (s1.heap.objs.size + 1) c i ∧ h.IsTuple c its2.toArray) := fun A' hh => by
    rw [← n2]
    exact Draws.tuple hh _ c (Nat.ne_of_lt (Nat.lt_succ_of_lt l2)) its2.toArray
  have sz := M.sz
  refine zl_call (s := { s1 with heap := h' }) hA (sepN l1 l2) d1 d2 M.z M.TI ⟨_, _, M.TO⟩ ⟨⟨_, M.o1, rfl, rfl⟩, p1.at fun o e => M.keep _ _ e⟩ ⟨⟨_, M.o2, rfl, rfl⟩, p2.at fun o e => M.keep _ _ e⟩ (by show a < h'.objs.size; rw [sz]; exact Nat.lt_of_lt_of_le l1 (Nat.le_add_right _ _)) (by show c < h'.objs.size; rw [sz]; exact Nat.lt_of_lt_of_le l2 (Nat.le_add_right _ _)) hz fun h'' tk acc k as hk hS hlen hG hacc => ?_
  have old : ∀ d o, s1.heap.get? d = some o → h''.get? d = some o := fun d o e => by
    have lt := Heap.lt_size e
    refine hk d o (fun z => ?_) (fun z => ?_) (fun z => ?_) (fun z => ?_) (M.keep d o e)
    · rw [z] at lt; exact absurd lt (Nat.not_lt.mpr (Nat.le_add_right _ _))
    · rw [z] at lt; exact absurd lt (Nat.not_lt.mpr (Nat.le_add_right _ _))
    · rw [z] at lt; exact Nat.lt_irrefl _ lt
    · rw [z] at lt; exact absurd lt (Nat.not_lt.mpr (Nat.le_add_right _ _))
  obtain ⟨H', k1, k2, k3, k4, k5, k6, J⟩ := laid (tk := tk) I1 rv rv2 hl hz old (by show _ ≤ h'.objs.size; rw [sz]; exact Nat.le_add_right _ _) hS hlen hG hacc
  exact ⟨.ref _, H', J, rfl, q H' _ as k1 k2 k3 k4 k5 k6⟩
theorem pe_lzip (hc : X.calm = true) (hg : Gl X "list") (hm : X.mg "list" = none) (hg2 : Gl X "zip") (hm2 : X.mg "zip" = none) (ha : PA X [e, e2] ta)
    (hs : starEach [e, e2] X.env = (false, eval e X.env) :: starEach [e2] X.env := by rfl) (hpl : (backTo pos2 (starEach [e2] X.env)).any (·.1) = false := by rfl)
    (hs0 : starEach [.Call (.Name "zip" p2) [e, e2] [] pos2] X.env = (false, eval (.Call (.Name "zip" p2) [e, e2] [] pos2) X.env) :: starEach [] X.env := by rfl) :
    PE X (.Call (.Name "list" p) [.Call (.Name "zip" p2) [e, e2] [] pos2] [] pos) (tLZip X.K ta) := by
  refine ⟨fun pins s σ H Q I h => ?_⟩
  refine wpAny_Call_Name_kw (ld_blt I hg hm boot_list ?_)
  refine PyProof.Rows.callWith_type1 ?_ hs0 rfl
  rw [hs0]
  show wpAny _ _ (spliced ((false, eval (.Call (.Name "zip" p2) [e, e2] [] pos2) X.env) :: backTo pos (starEach [] X.env))) _ _ _
  refine Calls.spliced_cons ?_
  refine Call_ (ld_blt (I.tok _) hg2 hm2 PyProof.Rows.boot_zip (PyProof.Rows.callWith_type1 (thn (ha.run pos2 pins _ σ H _ (I.tok _) h) fun us s1 ⟨vs, H1, I1, r1, q1⟩ => ?_) hs hpl))
  obtain ⟨a, c, xs, ys, ex, hqx, hqy, hl, q⟩ := q1
  subst ex
  obtain ⟨u1, u2, rfl, r, r'⟩ := vals2 r1
  cases r
  cases r'
  obtain ⟨its, rv, p1, z1⟩ := I1.list hqx
  obtain ⟨its2, rv2, p2, _⟩ := I1.tuple hqy
  have l1 : a < s1.heap.objs.size := p1.lt
  have l2 : c < s1.heap.objs.size := ltup (pins := pins) (σ := σ) (H := H1) p2
  refine zip_loose (begins_list a its.toArray) (begins_tuple c its2.toArray) p1.isList p2 fun h' M => ?_
  refine Calls.spliced_nil ?_
  exact ended (I1.ok.hd hc) I1 rv rv2 hl z1 p1.isList p2 l1 l2 M q
theorem pe_lzipS (hc : X.calm = true) (hg : Gl X "list") (hm : X.mg "list" = none) (hg2 : Gl X "zip") (hm2 : X.mg "zip" = none) (ha : PA X [e, e2] ta)
    (hs : starEach [e, e2] X.env = (false, eval e X.env) :: starEach [e2] X.env := by rfl)
    (hpl : ((backTo pos2 (starEach [e, e2] X.env)).any (·.1) || (backToKw pos2 (keywordEach [⟨some "strict", .Constant (.bool true) kb cpos, kpos⟩] X.env)).any (·.1.isNone)) = false := by rfl)
    (hs0 : starEach [.Call (.Name "zip" p2) [e, e2] [⟨some "strict", .Constant (.bool true) kb cpos, kpos⟩] pos2] X.env = (false, eval (.Call (.Name "zip" p2) [e, e2] [⟨some "strict", .Constant (.bool true) kb cpos, kpos⟩] pos2) X.env) :: starEach [] X.env := by rfl) :
    PE X (.Call (.Name "list" p) [.Call (.Name "zip" p2) [e, e2] [⟨some "strict", .Constant (.bool true) kb cpos, kpos⟩] pos2] [] pos) (tLZip X.K ta) := by
  refine ⟨fun pins s σ H Q I h => ?_⟩
  refine wpAny_Call_Name_kw (ld_blt I hg hm boot_list ?_)
  refine PyProof.Rows.callWith_type1 ?_ hs0 rfl
  rw [hs0]
  show wpAny _ _ (spliced ((false, eval (.Call (.Name "zip" p2) [e, e2] [⟨some "strict", .Constant (.bool true) kb cpos, kpos⟩] pos2) X.env) :: backTo pos (starEach [] X.env))) _ _ _
  refine Calls.spliced_cons ?_
  refine wpAny_Call_Name_kw (ld_blt (I.tok _) hg2 hm2 PyProof.Rows.boot_zip ?_)
  refine callWith_type_kw rfl (thn (ha.run pos2 pins _ σ H _ (I.tok _) h) fun us s1 ⟨vs, H1, I1, r1, q1⟩ => ?_) hpl hs
  refine thn ((pk_cons (nm := some "strict") (kpos := kpos) (pe_bl (X := X) (b := true) (j := kb) (pos := cpos)) pk_nil).run pos2 pins s1 σ H1 (fun zs H2 => zs = [V.bl true] ∧ H2 = H1) I1 ⟨rfl, rfl⟩) fun ks s2 ⟨zs, H2, I2, r2, ez, eh⟩ => ?_
  subst ez eh
  obtain ⟨k1, rfl, rk⟩ := vals1 r2
  obtain rfl : k1 = Value.bool true := rk
  obtain ⟨a, c, xs, ys, ex, hqx, hqy, hl, q⟩ := q1
  subst ex
  obtain ⟨u1, u2, rfl, r, r'⟩ := vals2 r1
  cases r
  cases r'
  obtain ⟨its, rv, p1, z1⟩ := I2.list hqx
  obtain ⟨its2, rv2, p2, _⟩ := I2.tuple hqy
  have l1 : a < s2.heap.objs.size := p1.lt
  have l2 : c < s2.heap.objs.size := ltup (pins := pins) (σ := σ) (H := H2) p2
  show wpAny (model X.prog X.w) X.A (call (.type "zip") [.ref a, .ref c] [(Str.ofString "strict", .bool true)]) _ _ _
  refine zip_strict (begins_list a its.toArray) (begins_tuple c its2.toArray) p1.isList p2 fun h' M => ?_
  refine Calls.spliced_nil ?_
  exact ended (I2.ok.hd hc) I2 rv rv2 hl z1 p1.isList p2 l1 l2 M q
end
end K27Z

set_option maxHeartbeats 4000000
/-! What the top has left, by names; calls of the program's defs; data of tuples; frames. -/
namespace K27
open PySem PySem.Spec PyProof.Rows L2
structure TX (K : PySem.W.Frag) (mg : Str → Option Value) : Prop where
  ex : ∃ h : Heap, K.In h ∧ h.Ns mainGlobals mg
  says : SaysK K
section
variable {K : PySem.W.Frag} {mg : Str → Option Value}
theorem TX.glo (T : TX K mg) (x : Str) (i : Nat) (h : fa[i]? = some (.glo x) := by rfl) : mg x = some (.ref (He.ga K x)) := by
  obtain ⟨h', X, G⟩ := T.ex
  exact He.glo_ok X G (T.says.1.fact i h)
theorem TX.free (T : TX K mg) (x : Str) (i : Nat) (h : fa[i]? = some (.free x) := by rfl) : mg x = none := by
  obtain ⟨h', X, G⟩ := T.ex
  exact He.free_ok X G (T.says.1.fact i h)
theorem TX.m_item_of (T : TX K mg) : mg "item_of" = some (.ref (He.ga K "item_of")) := T.glo _ 0
theorem TX.m_tongue_of (T : TX K mg) : mg "tongue_of" = some (.ref (He.ga K "tongue_of")) := T.glo _ 1
theorem TX.m_heads_of (T : TX K mg) : mg "heads_of" = some (.ref (He.ga K "heads_of")) := T.glo _ 2
theorem TX.m_is_made_of (T : TX K mg) : mg "is_made_of" = some (.ref (He.ga K "is_made_of")) := T.glo _ 3
theorem TX.m_is_name (T : TX K mg) : mg "is_name" = some (.ref (He.ga K "is_name")) := T.glo _ 4
theorem TX.m_is_of_sort (T : TX K mg) : mg "is_of_sort" = some (.ref (He.ga K "is_of_sort")) := T.glo _ 5
theorem TX.m_things_due (T : TX K mg) : mg "things_due" = some (.ref (He.ga K "things_due")) := T.glo _ 6
theorem TX.m_look_term (T : TX K mg) : mg "look_term" = some (.ref (He.ga K "look_term")) := T.glo _ 7
theorem TX.m_Lbox (T : TX K mg) : mg "_law_box" = some (.ref (He.ga K "_law_box")) := T.glo _ 8
theorem TX.m_Ltake (T : TX K mg) : mg "_law_take" = some (.ref (He.ga K "_law_take")) := T.glo _ 9
theorem TX.m_Lone_of (T : TX K mg) : mg "_law_one_of" = some (.ref (He.ga K "_law_one_of")) := T.glo _ 10
theorem TX.m_Lpool (T : TX K mg) : mg "_law_pool" = some (.ref (He.ga K "_law_pool")) := T.glo _ 11
theorem TX.m_Lsigns (T : TX K mg) : mg "_law_signs" = some (.ref (He.ga K "_law_signs")) := T.glo _ 12
theorem TX.m_Lground (T : TX K mg) : mg "_law_ground" = some (.ref (He.ga K "_law_ground")) := T.glo _ 13
theorem TX.m_Ltongue (T : TX K mg) : mg "_law_tongue" = some (.ref (He.ga K "_law_tongue")) := T.glo _ 14
theorem TX.m_Lheads (T : TX K mg) : mg "_law_heads" = some (.ref (He.ga K "_law_heads")) := T.glo _ 15
theorem TX.m_Ldraw (T : TX K mg) : mg "_law_draw" = some (.ref (He.ga K "_law_draw")) := T.glo _ 16
theorem TX.m_Litems (T : TX K mg) : mg "_law_items" = some (.ref (He.ga K "_law_items")) := T.glo _ 17
theorem TX.m_Lnew_tongue (T : TX K mg) : mg "_law_new_tongue" = some (.ref (He.ga K "_law_new_tongue")) := T.glo _ 18
theorem TX.m_Lnew_part (T : TX K mg) : mg "_law_new_part" = some (.ref (He.ga K "_law_new_part")) := T.glo _ 19
theorem TX.m_Ltower (T : TX K mg) : mg "_law_tower" = some (.ref (He.ga K "_law_tower")) := T.glo _ 20
theorem TX.m_Linner (T : TX K mg) : mg "_law_inner" = some (.ref (He.ga K "_law_inner")) := T.glo _ 21
theorem TX.m_Lparts (T : TX K mg) : mg "_law_parts" = some (.ref (He.ga K "_law_parts")) := T.glo _ 22
theorem TX.m_Lput (T : TX K mg) : mg "_law_put" = some (.ref (He.ga K "_law_put")) := T.glo _ 23
theorem TX.m_Lsights (T : TX K mg) : mg "_law_sights" = some (.ref (He.ga K "_law_sights")) := T.glo _ 24
theorem TX.m_Ltold (T : TX K mg) : mg "_law_told" = some (.ref (He.ga K "_law_told")) := T.glo _ 25
theorem TX.m_Lplace_right (T : TX K mg) : mg "_law_place_right" = some (.ref (He.ga K "_law_place_right")) := T.glo _ 26
theorem TX.m_law (T : TX K mg) : mg "law" = some (.ref (He.ga K "law")) := T.glo _ 27
theorem TX.m_GROUND (T : TX K mg) : mg "GROUND" = some (.ref (He.ga K "GROUND")) := T.glo _ 28
theorem TX.m_NoTerm (T : TX K mg) : mg "NoTerm" = some (.ref (He.ga K "NoTerm")) := T.glo _ 29
theorem TX.m_TowerError (T : TX K mg) : mg "TowerError" = some (.ref (He.ga K "TowerError")) := T.glo _ 30
theorem TX.m_Looking (T : TX K mg) : mg "Looking" = some (.ref (He.ga K "Looking")) := T.glo _ 31
theorem TX.c_LETTERS (T : TX K mg) : ∃ t, mg "LETTERS" = some (.str "abcdefghijklmnopqrstuvwxyz" t) := by
  obtain ⟨h', X, G⟩ := T.ex
  exact He.str_ok X G (T.says.1.fact 32)
theorem TX.c_LONGEST (T : TX K mg) : ∃ t, mg "LONGEST" = some (.int 6 t) := by
  obtain ⟨h', X, G⟩ := T.ex
  exact He.int_ok X G (T.says.1.fact 33)
theorem TX.c_MOST_NUMBER (T : TX K mg) : ∃ t, mg "MOST_NUMBER" = some (.int 999 t) := by
  obtain ⟨h', X, G⟩ := T.ex
  exact He.int_ok X G (T.says.1.fact 34)
theorem TX.n_len (T : TX K mg) : mg "len" = none := T.free _ 35
theorem TX.n_isinstance (T : TX K mg) : mg "isinstance" = none := T.free _ 36
theorem TX.n_all (T : TX K mg) : mg "all" = none := T.free _ 37
theorem TX.n_zip (T : TX K mg) : mg "zip" = none := T.free _ 38
theorem TX.n_set (T : TX K mg) : mg "set" = none := T.free _ 39
theorem TX.n_list (T : TX K mg) : mg "list" = none := T.free _ 40
theorem TX.n_dict (T : TX K mg) : mg "dict" = none := T.free _ 41
theorem TX.n_range (T : TX K mg) : mg "range" = none := T.free _ 42
theorem TX.n_enumerate (T : TX K mg) : mg "enumerate" = none := T.free _ 43
theorem TX.n_tuple (T : TX K mg) : mg "tuple" = none := T.free _ 44
theorem TX.n_int (T : TX K mg) : mg "int" = none := T.free _ 45
theorem TX.n_max (T : TX K mg) : mg "max" = none := T.free _ 46
theorem TX.n_min (T : TX K mg) : mg "min" = none := T.free _ 47
theorem TX.n_bool (T : TX K mg) : mg "bool" = none := T.free _ 48
theorem TX.n_str (T : TX K mg) : mg "str" = none := T.free _ 49
theorem TX.cl_Looking (T : TX K mg) : Cls K (He.ga K "Looking") := He.cls_ok (T.says.1.fact 50)
theorem TX.mk_Looking (T : TX K mg) : Mk K (He.ga K "Looking") (He.ma K (He.ga K "Looking") "__init__") := He.mkr_ok (T.says.1.fact 51)
theorem TX.me_wrong (T : TX K mg) : Meth K (He.ga K "Looking") "wrong" (He.ma K (He.ga K "Looking") "wrong") := He.meth_ok (T.says.1.fact 52)
theorem TX.me_wrong_call (T : TX K mg) : Meth K (He.ga K "Looking") "wrong_call" (He.ma K (He.ga K "Looking") "wrong_call") := He.meth_ok (T.says.1.fact 53)
theorem TX.me_wrong_use (T : TX K mg) : Meth K (He.ga K "Looking") "wrong_use" (He.ma K (He.ga K "Looking") "wrong_use") := He.meth_ok (T.says.1.fact 54)
theorem TX.me_right_in (T : TX K mg) : Meth K (He.ga K "Looking") "right_in" (He.ma K (He.ga K "Looking") "right_in") := He.meth_ok (T.says.1.fact 55)
theorem TX.na_tongue (T : TX K mg) : NoAttr K (He.ga K "Looking") "tongue" := He.noat_ok (T.says.1.fact 56)
theorem TX.na_forms (T : TX K mg) : NoAttr K (He.ga K "Looking") "forms" := He.noat_ok (T.says.1.fact 57)
theorem TX.na_heads (T : TX K mg) : NoAttr K (He.ga K "Looking") "heads" := He.noat_ok (T.says.1.fact 58)
theorem TX.f_NoTerm_init (T : TX K mg) : ∃ fd, FunD K "__init__" "NoTerm.__init__" (defArgs s_NoTerm_init) (defBody s_NoTerm_init) (defScope s_NoTerm_init) [] [] (He.ma K (He.ga K "NoTerm") "__init__") fd := T.says.1.def_ 0
theorem TX.f_item_of (T : TX K mg) : ∃ fd, FunD K "item_of" "item_of" (defArgs s_item_of) (defBody s_item_of) (defScope s_item_of) [] [] (He.ga K "item_of") fd := T.says.1.def_ 1
theorem TX.f_tongue_of (T : TX K mg) : ∃ fd, FunD K "tongue_of" "tongue_of" (defArgs s_tongue_of) (defBody s_tongue_of) (defScope s_tongue_of) [] [] (He.ga K "tongue_of") fd := T.says.1.def_ 2
theorem TX.f_heads_of (T : TX K mg) : ∃ fd, FunD K "heads_of" "heads_of" (defArgs s_heads_of) (defBody s_heads_of) (defScope s_heads_of) [] [] (He.ga K "heads_of") fd := T.says.1.def_ 3
theorem TX.f_is_made_of (T : TX K mg) : ∃ fd, FunD K "is_made_of" "is_made_of" (defArgs s_is_made_of) (defBody s_is_made_of) (defScope s_is_made_of) [] [] (He.ga K "is_made_of") fd := T.says.1.def_ 4
theorem TX.f_is_name (T : TX K mg) : ∃ fd, FunD K "is_name" "is_name" (defArgs s_is_name) (defBody s_is_name) (defScope s_is_name) [] [] (He.ga K "is_name") fd := T.says.1.def_ 5
theorem TX.f_is_of_sort (T : TX K mg) : ∃ fd, FunD K "is_of_sort" "is_of_sort" (defArgs s_is_of_sort) (defBody s_is_of_sort) (defScope s_is_of_sort) [] [] (He.ga K "is_of_sort") fd := T.says.1.def_ 6
theorem TX.f_things_due (T : TX K mg) : ∃ fd, FunD K "things_due" "things_due" (defArgs s_things_due) (defBody s_things_due) (defScope s_things_due) [] [] (He.ga K "things_due") fd := T.says.1.def_ 7
theorem TX.f_Looking_init (T : TX K mg) : ∃ fd, FunD K "__init__" "Looking.__init__" (defArgs s_Looking_init) (defBody s_Looking_init) (defScope s_Looking_init) [] [] (He.ma K (He.ga K "Looking") "__init__") fd := T.says.1.def_ 8
theorem TX.f_Looking_wrong (T : TX K mg) : ∃ fd, FunD K "wrong" "Looking.wrong" (defArgs s_Looking_wrong) (defBody s_Looking_wrong) (defScope s_Looking_wrong) [] [] (He.ma K (He.ga K "Looking") "wrong") fd := T.says.1.def_ 9
theorem TX.f_Looking_wrong_call (T : TX K mg) : ∃ fd, FunD K "wrong_call" "Looking.wrong_call" (defArgs s_Looking_wrong_call) (defBody s_Looking_wrong_call) (defScope s_Looking_wrong_call) [] [] (He.ma K (He.ga K "Looking") "wrong_call") fd := T.says.1.def_ 10
theorem TX.f_Looking_wrong_use (T : TX K mg) : ∃ fd, FunD K "wrong_use" "Looking.wrong_use" (defArgs s_Looking_wrong_use) (defBody s_Looking_wrong_use) (defScope s_Looking_wrong_use) [] [] (He.ma K (He.ga K "Looking") "wrong_use") fd := T.says.1.def_ 11
theorem TX.f_Looking_right_in (T : TX K mg) : ∃ fd, FunD K "right_in" "Looking.right_in" (defArgs s_Looking_right_in) (defBody s_Looking_right_in) (defScope s_Looking_right_in) [] [] (He.ma K (He.ga K "Looking") "right_in") fd := T.says.1.def_ 12
theorem TX.f_look_term (T : TX K mg) : ∃ fd, FunD K "look_term" "look_term" (defArgs s_look_term) (defBody s_look_term) (defScope s_look_term) [] [] (He.ga K "look_term") fd := T.says.1.def_ 13
theorem TX.f_Lbox (T : TX K mg) : ∃ fd, FunD K "_law_box" "_law_box" (defArgs s_Lbox) (defBody s_Lbox) (defScope s_Lbox) [] [] (He.ga K "_law_box") fd := T.says.1.def_ 14
theorem TX.f_Ltake (T : TX K mg) : ∃ fd, FunD K "_law_take" "_law_take" (defArgs s_Ltake) (defBody s_Ltake) (defScope s_Ltake) [] [] (He.ga K "_law_take") fd := T.says.1.def_ 15
theorem TX.f_Lone_of (T : TX K mg) : ∃ fd, FunD K "_law_one_of" "_law_one_of" (defArgs s_Lone_of) (defBody s_Lone_of) (defScope s_Lone_of) [] [] (He.ga K "_law_one_of") fd := T.says.1.def_ 16
theorem TX.f_Lpool (T : TX K mg) : ∃ fd, FunD K "_law_pool" "_law_pool" (defArgs s_Lpool) (defBody s_Lpool) (defScope s_Lpool) [] [] (He.ga K "_law_pool") fd := T.says.1.def_ 17
theorem TX.f_Lsigns (T : TX K mg) : ∃ fd, FunD K "_law_signs" "_law_signs" (defArgs s_Lsigns) (defBody s_Lsigns) (defScope s_Lsigns) [] [] (He.ga K "_law_signs") fd := T.says.1.def_ 18
theorem TX.f_Lground (T : TX K mg) : ∃ fd, FunD K "_law_ground" "_law_ground" (defArgs s_Lground) (defBody s_Lground) (defScope s_Lground) [] [] (He.ga K "_law_ground") fd := T.says.1.def_ 19
theorem TX.f_Ltongue (T : TX K mg) : ∃ fd, FunD K "_law_tongue" "_law_tongue" (defArgs s_Ltongue) (defBody s_Ltongue) (defScope s_Ltongue) [] [] (He.ga K "_law_tongue") fd := T.says.1.def_ 20
theorem TX.f_Lheads (T : TX K mg) : ∃ fd, FunD K "_law_heads" "_law_heads" (defArgs s_Lheads) (defBody s_Lheads) (defScope s_Lheads) [] [] (He.ga K "_law_heads") fd := T.says.1.def_ 21
theorem TX.f_Ldraw (T : TX K mg) : ∃ fd, FunD K "_law_draw" "_law_draw" (defArgs s_Ldraw) (defBody s_Ldraw) (defScope s_Ldraw) [] [] (He.ga K "_law_draw") fd := T.says.1.def_ 22
theorem TX.f_Litems (T : TX K mg) : ∃ fd, FunD K "_law_items" "_law_items" (defArgs s_Litems) (defBody s_Litems) (defScope s_Litems) [] [] (He.ga K "_law_items") fd := T.says.1.def_ 23
theorem TX.f_Lnew_tongue (T : TX K mg) : ∃ fd, FunD K "_law_new_tongue" "_law_new_tongue" (defArgs s_Lnew_tongue) (defBody s_Lnew_tongue) (defScope s_Lnew_tongue) [] [] (He.ga K "_law_new_tongue") fd := T.says.1.def_ 24
theorem TX.f_Lnew_part (T : TX K mg) : ∃ fd, FunD K "_law_new_part" "_law_new_part" (defArgs s_Lnew_part) (defBody s_Lnew_part) (defScope s_Lnew_part) [] [] (He.ga K "_law_new_part") fd := T.says.1.def_ 25
theorem TX.f_Ltower (T : TX K mg) : ∃ fd, FunD K "_law_tower" "_law_tower" (defArgs s_Ltower) (defBody s_Ltower) (defScope s_Ltower) [] [] (He.ga K "_law_tower") fd := T.says.1.def_ 26
theorem TX.f_Linner (T : TX K mg) : ∃ fd, FunD K "_law_inner" "_law_inner" (defArgs s_Linner) (defBody s_Linner) (defScope s_Linner) [] [] (He.ga K "_law_inner") fd := T.says.1.def_ 27
theorem TX.f_Lparts (T : TX K mg) : ∃ fd, FunD K "_law_parts" "_law_parts" (defArgs s_Lparts) (defBody s_Lparts) (defScope s_Lparts) [] [] (He.ga K "_law_parts") fd := T.says.1.def_ 28
theorem TX.f_Lput (T : TX K mg) : ∃ fd, FunD K "_law_put" "_law_put" (defArgs s_Lput) (defBody s_Lput) (defScope s_Lput) [] [] (He.ga K "_law_put") fd := T.says.1.def_ 29
theorem TX.f_Lsights (T : TX K mg) : ∃ fd, FunD K "_law_sights" "_law_sights" (defArgs s_Lsights) (defBody s_Lsights) (defScope s_Lsights) [] [] (He.ga K "_law_sights") fd := T.says.1.def_ 30
theorem TX.f_Ltold (T : TX K mg) : ∃ fd, FunD K "_law_told" "_law_told" (defArgs s_Ltold) (defBody s_Ltold) (defScope s_Ltold) [] [] (He.ga K "_law_told") fd := T.says.1.def_ 31
theorem TX.f_Lplace_right (T : TX K mg) : ∃ fd, FunD K "_law_place_right" "_law_place_right" (defArgs s_Lplace_right) (defBody s_Lplace_right) (defScope s_Lplace_right) [] [] (He.ga K "_law_place_right") fd := T.says.1.def_ 32
theorem TX.f_law (T : TX K mg) : ∃ fd, FunD K "law" "law" (defArgs s_law) (defBody s_law) (defScope s_law) [] [] (He.ga K "law") fd := T.says.1.def_ 33
end
/-- a def of the program that keeps a promise -/
structure Ok (P : Program) (w : World) (K : PySem.W.Frag) (mg : Str → Option Value) (base : Heap) (CX : CXT) (k : Nat) (x : Str) (ps : List Str) (sp : Sp) : Prop where
  at_ : mg x = some (.ref (He.ga K x))
  kp : PySem.W.keepIn K (.ref (He.ga K x)) = true
  ex : ∃ fd, FnOk P w K mg base CX k (He.ga K x) fd ps sp ∧ Binds K fd ps []
section
variable {X : Cx} {CX : CXT} {k m : Nat} {x : Str} {ps : List Str} {sp : Sp} {e : Expr} {es : List Expr} {t : TA} {p pos : Pos} {E : XK}
theorem pe_ok (G : Ok X.prog X.w X.K X.mg X.base CX k x ps sp) (hr : Room m X.A) (hk : k ≤ m) (hg : Gl X x) (ha : PA X (e :: es) t) (hx : Passes CX X E)
    (hdb : (x == ("__debug__" : Str)) = false := by decide) (he : starEach (e :: es) X.env = (false, eval e X.env) :: starEach es X.env := by rfl) (hpl : (backTo pos (starEach es X.env)).any (·.1) = false := by rfl) :
    PE X (.Call (.Name x p) (e :: es) [] pos) (tCall sp [] E t) := by
  obtain ⟨fd, F, b⟩ := G.ex
  exact pe_call F (hr.mono hk) hg G.at_ G.kp b .nil hx ha hdb he hpl
theorem pe_ok0 (G : Ok X.prog X.w X.K X.mg X.base CX k x ps sp) (hr : Room m X.A) (hk : k ≤ m) (hg : Gl X x) (hx : Passes CX X E)
    (hdb : (x == ("__debug__" : Str)) = false := by decide) :
    PE X (.Call (.Name x p) [] [] pos) (tCall sp [] E tNil) := by
  obtain ⟨fd, F, b⟩ := G.ex
  exact pe_call0 F (hr.mono hk) hg G.at_ G.kp b .nil hx hdb
end
section
variable {P : Program} {w : World} {K : PySem.W.Frag} {mg : Str → Option Value} {base : Heap} {CX : CXT} {k : Nat}
theorem Ok.mono {j : Nat} {x : Str} {ps : List Str} {sp : Sp} (h : Ok P w K mg base CX j x ps sp) (hk : j ≤ k) : Ok P w K mg base CX k x ps sp := by
  obtain ⟨a, b, fd, F, c⟩ := h
  exact ⟨a, b, fd, F.mono hk, c⟩
abbrev FnP (K : PySem.W.Frag) (x : Str) (st : Stmt) (f : Addr) (fd : FuncData) : Prop := FunD K x x (defArgs st) (defBody st) (defScope st) [] [] f fd
theorem Ok.mk' {x : Str} {st : Stmt} {N ps : List Str} {sp : Sp} (T : TX K mg) (g : mg x = some (.ref (He.ga K x))) (F : ∃ fd, FnP K x st (He.ga K x) fd) (S : FnScope N ps (defScope st)) (len : ∀ vs H Q E, sp vs H Q E → vs.length = ps.length)
    (hb : ∀ (kV doc pm : Value) (an : Option Addr) (cdv ct : Value) (us : List Value), us.length = ps.length → bindArgs (PySem.W.fnOf x x (defArgs st) (defBody st) (defScope st) .none kV doc pm an cdv ct) ⟨us, []⟩ = pure (ps.zip us))
    (hbody : ∀ (cdv : Value) (A : Around) (outer : List Env) (s : Shared) (H : Hp) (vs : List V) (Q : VK) (E : XK), Room k (A.deeper (envOfC x (defScope st) s.heap.objs.size (He.ga K x) cdv)) → sp vs H Q E →
      ∃ t, PSs (cxOf CX0 P w K mg base N x (defScope st) (He.ga K x) cdv A outer s H E).nox (defBody st) t ∧ t { nx := fun _ H' => Q .non H', rt := Q } (start N vs) H) : Ok P w K mg base CX0 (k + 1) x ps sp := by
  obtain ⟨fd, F⟩ := F
  refine ⟨g, F.kp, fd, F.ok S len fun cdv A outer s H vs Q E hr h => ?_, F.bindsN hb⟩
  obtain ⟨t, h1, h2⟩ := hbody cdv A outer s H vs Q E hr h
  exact ⟨t, h1.nox, h2⟩
end
theorem lz (n : Nat) (h : n ≤ 100000 := by decide) : n ≤ sizeLine := Nat.le_trans h (by decide)
theorem lzl {n : Nat} (h : n < 100000) : n < sizeLine := Nat.lt_of_lt_of_le h (by decide)
/-! ### frames -/
/-- all but what stands at b is as it was -/
def But (b : Addr) (H H' : Hp) : Prop := ∀ a o, a ≠ b → H a = some o → H' a = some o
theorem But.refl (b : Addr) (H : Hp) : But b H H := fun _ _ _ e => e
theorem But.trans {b : Addr} {H H1 H2 : Hp} (x : But b H H1) (y : But b H1 H2) : But b H H2 := fun a o n e => y a o n (x a o n e)
theorem But.of {b : Addr} {H H' : Hp} (x : Same H H') : But b H H' := fun a o _ e => x a o e
theorem But.put {b : Addr} {H H' : Hp} {o : HO} (x : But b H H') : But b H (upd H' b o) := fun a u n e => by
  rw [upd_ne n]
  exact x a u n e
theorem But.new {b p : Addr} {H : Hp} {o : HO} (h : H p = none) : But b H (upd H p o) := fun a u n e => by
  rw [upd_ne (ne_of_none e h)]
  exact e
theorem same_new {H : Hp} {p : Addr} {o : HO} (h : H p = none) : Same H (upd H p o) := fun b x e => by
  rw [upd_ne (ne_of_none e h)]
  exact e
theorem mk {H H' : Hp} {p : Addr} {o : HO} (e : upd H p o = H') (h : H p = none) : Same H H' ∧ H' p = some o := by
  subst e
  exact ⟨same_new h, upd_same⟩
/-- what H doesn't know may change -/
theorem smut {H H' : Hp} {p : Addr} {o : HO} (e : Same H H') (h : H p = none) : Same H (upd H' p o) := fun a u ha => by
  rw [upd_ne (ne_of_none ha h)]
  exact e a u ha
theorem But.mut {b : Addr} {H H' : Hp} {p : Addr} {o : HO} (e : But b H H') (h : H p = none) : But b H (L2.upd H' p o) := fun a u n ha => by
  show L2.upd H' p o a = some u
  rw [upd_ne (ne_of_none ha h)]
  exact e a u n ha
theorem But.free {b : Addr} {H H' : Hp} (e : But b H H') {l : Addr} (n : l ≠ b) (h : H' l = none) : H l = none := by
  cases q : H l with
  | none => rfl
  | some o =>
    rw [e l o n q] at h
    cases h
/-- the tuples stay -/
def isTp : HO → Bool
  | .tup _ => true
  | .frz _ (.tup _) => true
  | _ => false
def TupK (H H' : Hp) : Prop := ∀ a o, isTp o = true → H a = some o → H' a = some o
theorem TupK.refl (H : Hp) : TupK H H := fun _ _ _ h => h
theorem TupK.trans {H H1 H2 : Hp} (a : TupK H H1) (b : TupK H1 H2) : TupK H H2 := fun c o i h => b c o i (a c o i h)
theorem tk {H H' : Hp} (x : Same H H') : TupK H H' := fun a o _ e => x a o e
theorem TupK.new {H : Hp} {p : Addr} {o : HO} (h : H p = none) : TupK H (upd H p o) := tk (same_new h)
/-- a thing that is no tuple may change -/
theorem TupK.put {H H' : Hp} {p : Addr} {o u : HO} (e : TupK H H') (h : H p = some u) (hu : isTp u = false) : TupK H (upd H' p o) := fun a v i ha => by
  have n : a ≠ p := fun z => by
    rw [z, h] at ha
    cases ha
    rw [hu] at i
    cases i
  rw [upd_ne n]
  exact e a v i ha
theorem TupK.mut {H H' : Hp} {p : Addr} {o : HO} (e : TupK H H') (h : H p = none) : TupK H (upd H' p o) := fun a v i ha => by
  rw [upd_ne (ne_of_none ha h)]
  exact e a v i ha
/-- where the random numbers stand -/
def Bx (H : Hp) (b : Addr) : Prop := ∃ i j k : Int, H b = some (.lst [.int i, .int j, .int k])
theorem But.tup {b : Addr} {H H' : Hp} (x : But b H H') (h : Bx H b) : TupK H H' := fun a o it e => by
  refine x a _ (fun z => ?_) e
  obtain ⟨i, j, k, h⟩ := h
  rw [z, h] at e
  cases e
  cases it
/-! ### tuples, data of them -/
def Tu (K : PySem.W.Frag) (H : Hp) (a : Addr) (xs : List V) : Prop := H a = some (.tup xs) ∨
  ∃ (o : Obj) (its : Array Value) (n : Nat), K.lookup a = some o ∧ o.cls = .type "tuple" ∧ o.data = .seq its n ∧ its.size ≤ sizeLine ∧ Vals xs its.toList
section
variable {K : PySem.W.Frag} {H H' : Hp} {a : Addr} {xs : List V}
theorem Tu.sq (h : Tu K H a xs) : SqT K H a xs := by
  rcases h with h | h
  · exact .inl (.inl h)
  · exact .inr h
theorem Tu.mono (h : Tu K H a xs) (k : TupK H H') : Tu K H' a xs := by
  rcases h with h | h
  · exact .inl (k _ _ rfl h)
  · exact .inr h
mutual
inductive Td (K : PySem.W.Frag) (H : Hp) : V → PyData → Prop
  | non : Td K H .non .none
  | bl (b : Bool) : Td K H (.bl b) (.bool b)
  | int (i : Int) : Td K H (.int i) (.int i)
  | str (x : Str) : Td K H (.str x) (.str x)
  | tup {a : Addr} {xs : List V} {ds : List PyData} : Tu K H a xs → Tds K H xs ds → Td K H (.ref a) (.tuple ds)
  /-- a tuple that is known to have no dict of its own -/
  | ptup {a : Addr} {o : Obj} {xs : List V} {ds : List PyData} : H a = some (.frz o (.tup xs)) → o.dict = none → Tds K H xs ds → Td K H (.ref a) (.list ds)
inductive Tds (K : PySem.W.Frag) (H : Hp) : List V → List PyData → Prop
  | nil : Tds K H [] []
  | cons {v : V} {vs : List V} {d : PyData} {ds : List PyData} : Td K H v d → Tds K H vs ds → Tds K H (v :: vs) (d :: ds)
end
mutual
theorem Td.mono (k : TupK H H') : ∀ {v : V} {d : PyData}, Td K H v d → Td K H' v d
  | _, _, .non => .non
  | _, _, .bl b => .bl b
  | _, _, .int i => .int i
  | _, _, .str x => .str x
  | _, _, .tup h t => .tup (h.mono k) (Tds.mono k t)
  | _, _, .ptup h d t => .ptup (k _ _ rfl h) d (Tds.mono k t)
theorem Tds.mono (k : TupK H H') : ∀ {v : List V} {d : List PyData}, Tds K H v d → Tds K H' v d
  | _, _, .nil => .nil
  | _, _, .cons h t => .cons (Td.mono k h) (Tds.mono k t)
end
theorem Td.invL {v : V} {ds : List PyData} (h : Td K H v (.list ds)) : ∃ a o xs, v = .ref a ∧ H a = some (.frz o (.tup xs)) ∧ o.dict = none ∧ Tds K H xs ds := by
  cases h with | ptup h d t => exact ⟨_, _, _, rfl, h, d, t⟩
theorem Td.inv {v : V} {ds : List PyData} (h : Td K H v (.tuple ds)) : ∃ a xs, v = .ref a ∧ Tu K H a xs ∧ Tds K H xs ds := by
  cases h with | tup h t => exact ⟨_, _, rfl, h, t⟩
theorem Td.strI {v : V} {x : Str} (h : Td K H v (.str x)) : v = .str x := by cases h; rfl
theorem Td.intI {v : V} {x : Int} (h : Td K H v (.int x)) : v = .int x := by cases h; rfl
theorem Td.blI {v : V} {x : Bool} (h : Td K H v (.bool x)) : v = .bl x := by cases h; rfl
theorem Td.nonI {v : V} (h : Td K H v .none) : v = .non := by cases h; rfl
theorem Tds.len {vs : List V} {ds : List PyData} (h : Tds K H vs ds) : vs.length = ds.length := by
  induction ds generalizing vs with
  | nil => cases h; rfl
  | cons d ds ih => cases h with | cons a b => rw [List.length_cons, List.length_cons, ih b]
theorem Tds.get {vs : List V} {ds : List PyData} (h : Tds K H vs ds) {i : Nat} {d : PyData} (e : ds[i]? = some d) : ∃ v, vs[i]? = some v ∧ Td K H v d := by
  induction ds generalizing vs i with
  | nil => simp at e
  | cons d' ds ih =>
    cases h with
    | cons a b =>
      cases i with
      | zero =>
        obtain rfl : d' = d := Option.some.inj e
        exact ⟨_, rfl, a⟩
      | succ i =>
        obtain ⟨v, h1, h2⟩ := ih b (i := i) (by simpa using e)
        exact ⟨v, by simpa using h1, h2⟩
theorem Tds.getV {vs : List V} {ds : List PyData} (h : Tds K H vs ds) {i : Nat} {v : V} (e : vs[i]? = some v) : ∃ d, ds[i]? = some d ∧ Td K H v d := by
  have hl := h.len
  have hi : i < vs.length := (List.getElem?_eq_some_iff.mp e).1
  have hd : i < ds.length := by omega
  obtain ⟨u, h1, h2⟩ := h.get (List.getElem?_eq_getElem hd)
  rw [e] at h1
  cases h1
  exact ⟨_, List.getElem?_eq_getElem hd, h2⟩
theorem Tds.append {vs ws : List V} {ds es : List PyData} (h : Tds K H vs ds) (h2 : Tds K H ws es) : Tds K H (vs ++ ws) (ds ++ es) := by
  induction ds generalizing vs with
  | nil => cases h; exact h2
  | cons d ds ih => cases h with | cons a b => exact .cons a (ih b)
theorem Tds.cons_inv {vs : List V} {d : PyData} {ds : List PyData} (h : Tds K H vs (d :: ds)) : ∃ v r, vs = v :: r ∧ Td K H v d ∧ Tds K H r ds := by
  cases h with | cons a b => exact ⟨_, _, rfl, a, b⟩
theorem Tds.hd {v : V} {vs : List V} {d : PyData} {ds : List PyData} (h : Tds K H (v :: vs) (d :: ds)) : Td K H v d := by cases h with | cons a b => exact a
theorem Tds.tl {v : V} {vs : List V} {d : PyData} {ds : List PyData} (h : Tds K H (v :: vs) (d :: ds)) : Tds K H vs ds := by cases h with | cons a b => exact b
theorem Tds.nil_inv {vs : List V} (h : Tds K H vs []) : vs = [] := by cases h; rfl
theorem Tds.one {v : V} {d : PyData} (h : Td K H v d) : Tds K H [v] [d] := .cons h .nil
theorem Td.i1 {v : V} {d1 : PyData} (h : Td K H v (.tuple [d1])) : ∃ a v1, v = .ref a ∧ Tu K H a [v1] ∧ Td K H v1 d1 := by
  obtain ⟨a, xs, rfl, h, t⟩ := h.inv
  obtain ⟨v1, _, rfl, h1, t⟩ := t.cons_inv
  cases t.nil_inv
  exact ⟨a, v1, rfl, h, h1⟩
theorem Td.i2 {v : V} {d1 d2 : PyData} (h : Td K H v (.tuple [d1, d2])) : ∃ a v1 v2, v = .ref a ∧ Tu K H a [v1, v2] ∧ Td K H v1 d1 ∧ Td K H v2 d2 := by
  obtain ⟨a, xs, rfl, h, t⟩ := h.inv
  obtain ⟨v1, _, rfl, h1, t⟩ := t.cons_inv
  obtain ⟨v2, _, rfl, h2, t⟩ := t.cons_inv
  cases t.nil_inv
  exact ⟨a, v1, v2, rfl, h, h1, h2⟩
theorem Td.i3 {v : V} {d1 d2 d3 : PyData} (h : Td K H v (.tuple [d1, d2, d3])) : ∃ a v1 v2 v3, v = .ref a ∧ Tu K H a [v1, v2, v3] ∧ Td K H v1 d1 ∧ Td K H v2 d2 ∧ Td K H v3 d3 := by
  obtain ⟨a, xs, rfl, h, t⟩ := h.inv
  obtain ⟨v1, _, rfl, h1, t⟩ := t.cons_inv
  obtain ⟨v2, _, rfl, h2, t⟩ := t.cons_inv
  obtain ⟨v3, _, rfl, h3, t⟩ := t.cons_inv
  cases t.nil_inv
  exact ⟨a, v1, v2, v3, rfl, h, h1, h2, h3⟩
theorem Td.i4 {v : V} {d1 d2 d3 d4 : PyData} (h : Td K H v (.tuple [d1, d2, d3, d4])) : ∃ a v1 v2 v3 v4, v = .ref a ∧ Tu K H a [v1, v2, v3, v4] ∧ Td K H v1 d1 ∧ Td K H v2 d2 ∧ Td K H v3 d3 ∧ Td K H v4 d4 := by
  obtain ⟨a, xs, rfl, h, t⟩ := h.inv
  obtain ⟨v1, _, rfl, h1, t⟩ := t.cons_inv
  obtain ⟨v2, _, rfl, h2, t⟩ := t.cons_inv
  obtain ⟨v3, _, rfl, h3, t⟩ := t.cons_inv
  obtain ⟨v4, _, rfl, h4, t⟩ := t.cons_inv
  cases t.nil_inv
  exact ⟨a, v1, v2, v3, v4, rfl, h, h1, h2, h3, h4⟩
theorem Td.i7 {v : V} {d1 d2 d3 d4 d5 d6 d7 : PyData} (h : Td K H v (.tuple [d1, d2, d3, d4, d5, d6, d7])) : ∃ a v1 v2 v3 v4 v5 v6 v7, v = .ref a ∧ Tu K H a [v1, v2, v3, v4, v5, v6, v7] ∧ Td K H v1 d1 ∧ Td K H v2 d2 ∧ Td K H v3 d3 ∧ Td K H v4 d4 ∧ Td K H v5 d5 ∧ Td K H v6 d6 ∧ Td K H v7 d7 := by
  obtain ⟨a, xs, rfl, h, t⟩ := h.inv
  obtain ⟨v1, _, rfl, h1, t⟩ := t.cons_inv
  obtain ⟨v2, _, rfl, h2, t⟩ := t.cons_inv
  obtain ⟨v3, _, rfl, h3, t⟩ := t.cons_inv
  obtain ⟨v4, _, rfl, h4, t⟩ := t.cons_inv
  obtain ⟨v5, _, rfl, h5, t⟩ := t.cons_inv
  obtain ⟨v6, _, rfl, h6, t⟩ := t.cons_inv
  obtain ⟨v7, _, rfl, h7, t⟩ := t.cons_inv
  cases t.nil_inv
  exact ⟨a, v1, v2, v3, v4, v5, v6, v7, rfl, h, h1, h2, h3, h4, h5, h6, h7⟩
theorem Td.dpI {v : V} {x : Str} {i : Int} (h : Td K H v (.tuple [.str x, .int i])) : Dp K H v (.tuple [.str x, .int i]) := by
  obtain ⟨a, v1, v2, rfl, h, h1, h2⟩ := h.i2
  cases h1.strI
  cases h2.intI
  exact .tup h.sq (.cons (.str _) (.cons (.int _) .nil))
theorem Td.dpB {v : V} {x : Str} {i : Bool} (h : Td K H v (.tuple [.str x, .bool i])) : Dp K H v (.tuple [.str x, .bool i]) := by
  obtain ⟨a, v1, v2, rfl, h, h1, h2⟩ := h.i2
  cases h1.strI
  cases h2.blI
  exact .tup h.sq (.cons (.str _) (.cons (.bl _) .nil))
theorem Td.at {p : Addr} {vs : List V} {ds : List PyData} (np : H p = some (.tup vs)) (h : Tds K H vs ds) : Td K H (.ref p) (.tuple ds) := .tup (.inl np) h
/-- a new tuple of data -/
theorem Td.new {p : Addr} {vs : List V} {ds : List PyData} (np : H p = none) (h : Tds K H vs ds) : Td K (upd H p (.tup vs)) (.ref p) (.tuple ds) :=
  .tup (.inl upd_same) (Tds.mono (tk (same_new np)) h)
end
/-! a value of the written part as data -/
mutual
theorem isD_ok {K : PySem.W.Frag} (H : Hp) : ∀ (d : PyData) (u : Value), isD K d u = true → ∃ v, RelV v u ∧ Td K H v d
  | .none, .none, _ => ⟨.non, rfl, .non⟩
  | .int i, .int j t, h => ⟨.int i, ⟨t, by rw [show i = j from of_decide_eq_true h]⟩, .int i⟩
  | .str x, .str y t, h => ⟨.str x, ⟨t, by rw [show x = y from of_decide_eq_true h]⟩, .str x⟩
  | .tuple ds, .ref a, h => by
    unfold isD at h
    split at h
    · rename_i c _ its _ _ e
      obtain ⟨h1, h⟩ := Bool.and_eq_true_iff.mp h
      obtain ⟨h2, h⟩ := Bool.and_eq_true_iff.mp h
      obtain ⟨vs, r, t⟩ := isDs_ok H ds _ h
      exact ⟨.ref a, rfl, .tup (.inr ⟨_, its, _, e, congrArg Value.type (of_decide_eq_true h1), rfl, of_decide_eq_true h2, r⟩) t⟩
    · cases h
theorem isDs_ok {K : PySem.W.Frag} (H : Hp) : ∀ (ds : List PyData) (us : List Value), isDs K ds us = true → ∃ vs, Vals vs us ∧ Tds K H vs ds
  | [], [], _ => ⟨[], .nil, .nil⟩
  | d :: ds, u :: us, h => by
    unfold isDs at h
    obtain ⟨h1, h2⟩ := Bool.and_eq_true_iff.mp h
    obtain ⟨v, r, t⟩ := isD_ok H d u h1
    obtain ⟨vs, r2, t2⟩ := isDs_ok H ds us h2
    exact ⟨v :: vs, .cons r r2, .cons t t2⟩
end
theorem TX.ground {K : PySem.W.Frag} {mg : Str → Option Value} (T : TX K mg) (H : Hp) : Td K H (.ref (He.ga K "GROUND")) groundD := by
  obtain ⟨v, r, t⟩ := isD_ok H groundD _ (Bool.and_eq_true_iff.mp T.says.2).1
  cases v <;> first | (cases r; exact t) | (obtain ⟨t', e⟩ := r; cases e) | cases r
end K27

set_option maxHeartbeats 4000000
/-! rules that the layer lacks: t * 0, t * 1, s * 0, s * 1, list(s), dict(tuple of pairs), d.update(d2). -/
namespace K27
open PySem PySem.Spec PyProof.Rows L2
section
variable {X : Cx}
/-- s * n, n 0 or 1 -/
def rRepS : R2 := fun x y H Q => ∃ z k, x = .str z ∧ y = .int k ∧ (k = 0 ∨ k = 1) ∧ Q (.str (if k = 0 then Str.empty else z)) H
theorem op_repS : OpR X (binaryOp .Mult) rRepS := by
  intro pins s σ H x y v u Q I rx ry h
  obtain ⟨z, k, rfl, rfl, hk, q⟩ := h
  obtain ⟨t, rfl⟩ := rx
  obtain ⟨t', rfl⟩ := ry
  rcases hk with rfl | rfl
  · exact P.mul_str_none (by decide) (by decide) ⟨.str Str.empty, H, I.tok _, ⟨_, rfl⟩, q⟩
  · refine P.mul_str (by decide) (fun _ h => by simp at h) (fun _ h => by simp at h) ?_
    exact ⟨.str z, H, I, ⟨_, rfl⟩, q⟩
theorem tuple_mul1 (l : Addr) (items : Array Value) (n : Nat) (dd : Option Addr) (sl : Array (Option Value)) (u : Tok) :
    Meets (Builtin.«tuple.__mul__» ⟨[.ref l, .int 1 u], []⟩) (fun _ R s => s.heap.get? l = some { cls := .type "tuple", dict := dd, data := .seq items n, slots := sl } ∧
      R (.ok (.ret (Value.ref l))) s) :=
  .of_wp fun prog w A R s h => by
    obtain ⟨hp, g, d, tk, os⟩ := s
    obtain ⟨hl, h⟩ := h
    have f1 := AutoSeq1.idx_int
    have c1 : (items.isEmpty || (1 : Int) == 1) = true := by simp
    wp_walk using wpAny_loadPart' hl
    repeat (first
      | (refine wpAny_ite_true (decide_eq_true c1) ?_; wp_walk using wpAny_loadPart' hl)
      | (refine wpAny_ite_false (by decide) ?_; wp_walk using wpAny_loadPart' hl))
    exact ⟨_, rfl, h⟩
theorem tuple_mul0 (l : Addr) (items : Array Value) (n : Nat) (dd : Option Addr) (sl : Array (Option Value)) (u : Tok) (c1 : (items.isEmpty || (0 : Int) == 1) = false) :
    Meets (Builtin.«tuple.__mul__» ⟨[.ref l, .int 0 u], []⟩) (fun _ R s => s.heap.get? l = some { cls := .type "tuple", dict := dd, data := .seq items n, slots := sl } ∧
      R (.ok (.ret (Value.ref s.heap.objs.size))) { s with heap := s.heap.push { cls := Value.type "tuple", data := Data.seq #[] }, toks := s.toks }) :=
  .of_wp fun prog w A R s h => by
    obtain ⟨hp, g, d, tk, os⟩ := s
    obtain ⟨hl, h⟩ := h
    have f1 := AutoSeq1.idx_int
    wp_walk using wpAny_loadPart' hl
    repeat (first
      | (refine wpAny_ite_false (decide_eq_false (by rw [c1]; exact Bool.false_ne_true)) ?_; wp_walk using wpAny_loadPart' hl)
      | (refine wpAny_ite_true (by simp) ?_; wp_walk using wpAny_loadPart' hl)
      | (refine wpAny_ite_false (by decide) ?_; wp_walk using wpAny_loadPart' hl))
    exact ⟨_, rfl, h⟩
/-- t * n, n 0 or 1, t not empty -/
def rRepT0 (K : PySem.W.Frag) : R2 := fun x y H Q => ∃ l k xs, x = .ref l ∧ y = .int k ∧ SqT K H l xs ∧ xs ≠ [] ∧ ((k = 1 ∧ Q (.ref l) H) ∨ (k = 0 ∧ ∀ p, H p = none → Q (.ref p) (upd H p (.tup []))))
theorem op_repT0 : OpR X (binaryOp .Mult) (rRepT0 X.K) := by
  intro pins s σ H x y v u Q I rx ry h
  obtain ⟨l, k, xs, rfl, rfl, hT, hne, h⟩ := h
  cases rx
  obtain ⟨t, rfl⟩ := ry
  obtain ⟨its, r, ⟨⟨cls, dd, data, sl⟩, ho, hc, n, hd⟩, hs⟩ := I.tuple hT
  simp only at hc hd
  subst hc hd
  have hle : its.length = xs.length := r.length.symm
  have hi : its.toArray.isEmpty = false := by
    cases its with
    | nil => exact absurd (List.eq_nil_of_length_eq_zero hle.symm) hne
    | cons a b => rfl
  rcases h with ⟨rfl, q⟩ | ⟨rfl, q⟩
  · refine wpAny_binaryOp_repeat_ref (T := "tuple") (U := "int") (by decide) ⟨_, ho, rfl⟩ (fun s' => typeIs_int s' 1 t) noFill_tuple_mul F.fills_int_mul F.slot_int_rmul repeat_tuple F.slot_int_index.lookup
      (call_meets F.slot_int_rmul (typeIs_int s 1 t) F.entry_int_rmul (F.args_int_rmul_2 _ _) (int_rmul_tuple 1 t l its.toArray n dd sl)
        ⟨ho, rfl, ⟨_, ho, rfl⟩, call_meets F.slot_tuple_mul ⟨_, ho, rfl⟩ F.entry_tuple_mul (F.args_tuple_mul_2 _ _) (tuple_mul1 l its.toArray n dd sl t) ⟨ho, ?_⟩⟩)
    exact ⟨.ref l, H, I, rfl, q⟩
  · refine wpAny_binaryOp_repeat_ref (T := "tuple") (U := "int") (by decide) ⟨_, ho, rfl⟩ (fun s' => typeIs_int s' 0 t) noFill_tuple_mul F.fills_int_mul F.slot_int_rmul repeat_tuple F.slot_int_index.lookup
      (call_meets F.slot_int_rmul (typeIs_int s 0 t) F.entry_int_rmul (F.args_int_rmul_2 _ _) (int_rmul_tuple 0 t l its.toArray n dd sl)
        ⟨ho, rfl, ⟨_, ho, rfl⟩, call_meets F.slot_tuple_mul ⟨_, ho, rfl⟩ F.entry_tuple_mul (F.args_tuple_mul_2 _ _) (tuple_mul0 l its.toArray n dd sl t (by rw [hi]; rfl)) ⟨ho, ?_⟩⟩)
    refine ⟨.ref s.heap.objs.size, _, I.laid (t' := s.toks) (o := .tup []) (fun b ob q => Heap.get?_push_of_some _ q) (Nat.le_refl _) ?_, rfl, q _ (I.hok.fresh (Nat.le_refl _))⟩
    exact ⟨Nat.zero_le _, [], .nil, IsTup.new _ _⟩
/-- list(s), a text -/
def rListS : List V → Hp → VK → Prop := fun xs H Q => ∃ z : Str, xs = [.str z] ∧ z.length ≤ 1000 ∧ ∀ p, H p = none → Q (.ref p) (upd H p (.lst (z.cps.toList.map fun c => .str ⟨#[c]⟩)))
theorem signs_vals {z : Str} : ∀ (vs : List Value) (n : Nat), (∀ j v, vs[j]? = some v → ∃ c u, z.cps[n + j]? = some c ∧ v = .str ⟨#[c]⟩ u) → vs.length = (z.cps.toList.drop n).length → Vals ((z.cps.toList.drop n).map fun c => .str ⟨#[c]⟩) vs
  | [], n, _, hl => by
    rw [List.eq_nil_of_length_eq_zero hl.symm]
    exact .nil
  | v :: vs, n, h, hl => by
    obtain ⟨c, u, h1, rfl⟩ := h 0 v rfl
    have h1' : z.cps.toList[n]? = some c := by simpa using h1
    have hn : n < z.cps.toList.length := (List.getElem?_eq_some_iff.mp h1').1
    have e : z.cps.toList.drop n = c :: z.cps.toList.drop (n + 1) := by
      rw [List.drop_eq_getElem_cons hn]
      congr 1
      exact Option.some.inj ((List.getElem?_eq_getElem hn).symm.trans h1')
    rw [e] at hl ⊢
    rw [List.map_cons]
    refine .cons ⟨_, rfl⟩ (signs_vals vs (n + 1) (fun j w hj => ?_) (by simpa using hl))
    obtain ⟨c', u', e1, e2⟩ := h (j + 1) w (by simpa using hj)
    exact ⟨c', u', by rw [Nat.add_assoc, Nat.add_comm 1]; exact e1, e2⟩
theorem call_listS (hc : X.calm = true) : CallR X (.type "list") rListS := by
  intro pins s σ H xs us Q I r h
  obtain ⟨z, rfl, hz, q⟩ := h
  obtain ⟨u, rfl, t, rfl⟩ := vals1 r
  have hz' : z.cps.size ≤ 1000 := hz
  refine call_list_str (hn := by rw [sizeLine_eq]; omega) (I.ok.hd hc) z t fun h' tk acc' c' hk hS' hacc => ?_
  refine ⟨.ref s.heap.objs.size, _, I.laid (t' := tk) (o := .lst (z.cps.toList.map fun c => .str ⟨#[c]⟩)) hk (Nat.le_refl _) ?_, rfl, q _ (I.hok.fresh (Nat.le_refl _))⟩
  refine ⟨by rw [List.length_map, Array.length_toList, sizeLine_eq]; omega, acc'.toList, c', ?_, hS'⟩
  have hl : acc'.toList.length = z.cps.toList.length := by rw [Array.length_toList, Array.length_toList]; exact hacc.1
  have := signs_vals (z := z) acc'.toList 0 (fun j v hv => by
    obtain ⟨c, u, h1, h2⟩ := hacc.2 j v (by simpa using hv)
    exact ⟨c, u, by rw [Nat.zero_add]; exact h1, h2⟩) (by rw [List.drop_zero]; exact hl)
  rw [List.drop_zero] at this
  exact this
/-- tuple(l), the new tuple known to have no dict of its own -/
def rTupleF (K : PySem.W.Frag) : List V → Hp → VK → Prop := fun xs H Q => ∃ p ys, xs = [.ref p] ∧ SqL K H p ys ∧ ∀ (l : Addr) (o : Obj), H l = none → o.dict = none → Q (.ref l) (upd H l (.frz o (.tup ys)))
theorem call_tupleF : CallR X (.type "tuple") (rTupleF X.K) := by
  intro pins s σ H xs us Q I r h
  obtain ⟨p, ys, rfl, hq, q⟩ := h
  obtain ⟨u, rfl, rx⟩ := vals1 r
  cases rx
  obtain ⟨its, r', pl, hz⟩ := I.list hq
  have hlen := r'.length
  refine call_tuple_list pl.isList (fun h' kp => ?_) (by simp only [List.size_toArray] <;> omega)
  have I1 : Inv X pins σ H { s with heap := h' } := I.kept (t' := s.toks) kp
  have I2 : Inv X pins σ (upd H h'.objs.size (.frz { cls := .type "tuple", data := .seq its.toArray } (.tup ys))) { s with heap := h'.push { cls := .type "tuple", data := .seq its.toArray } } :=
    I1.laid (t' := s.toks) (fun b o e => Heap.get?_push_of_some _ e) (Nat.le_refl _) (show ObjOk X.prog X.w _ _ _ (.frz _ (.tup ys)) from ⟨Heap.get?_push_size _ rfl, hz, its, r', IsTup.new _ _⟩)
  exact ⟨.ref h'.objs.size, _, I2, rfl, q _ _ (I1.hok.fresh (Nat.le_refl _)) rfl⟩
theorem pairs_of2 {pins : List (Addr × Obj)} {σ : L2.St} {H : Hp} {s : Shared} (I : Inv X pins σ H s) : ∀ {ps : List Addr} {kvs : List (Key × V)}, Paired (fun p kv => SqT X.K H p [kV kv.1, kv.2]) ps kvs →
    ∃ (prs : List (Key × Value)) (qs : List (Value × Value)), KV kvs prs ∧ prs.length = ps.length ∧ qs.length = ps.length ∧ ∀ (j : Nat) (u v : Value), qs[j]? = some (u, v) → ∃ (b : Addr) (k : Key), ps[j]? = some b ∧ IsTup s.heap b #[u, v] ∧ prs[j]? = some (k, v) ∧ keyIs k u = true
  | _, _, .nil => ⟨[], [], .nil, rfl, rfl, fun j u v e => by simp at e⟩
  | _, _, .cons (a := p) (b := kv) h t => by
    obtain ⟨prs, qs, r, hl, hl2, hp⟩ := pairs_of2 I t
    obtain ⟨its, rv, ht, _⟩ := I.tuple h
    obtain ⟨u, y, ei, ru, ry⟩ := vals2 rv
    subst ei
    refine ⟨(kv.1, y) :: prs, (u, y) :: qs, .cons ⟨rfl, ry⟩ r, by rw [List.length_cons, List.length_cons, hl], by rw [List.length_cons, List.length_cons, hl2], fun j u' v' e => ?_⟩
    cases j with
    | zero =>
      have e' : (u, y) = (u', v') := Option.some.inj e
      cases e'
      exact ⟨p, kv.1, rfl, ht, rfl, kV_is (P := X.prog) (w := X.w) ru⟩
    | succ j =>
      obtain ⟨b, k, e1, e2, e3, e4⟩ := hp j u' v' (by simpa using e)
      exact ⟨b, k, by simpa using e1, e2, by simpa using e3, e4⟩
/-- dict(t), a tuple of pairs -/
def rDictPT (K : PySem.W.Frag) : List V → Hp → VK → Prop := fun xs H Q => ∃ (a : Addr) (o : Obj) (ps : List Addr) (kvs : List (Key × V)), xs = [.ref a] ∧ H a = some (.frz o (.tup (ps.map V.ref))) ∧ o.dict = none ∧ Paired (fun p kv => SqT K H p [kV kv.1, kv.2]) ps kvs ∧
    ∀ p, H p = none → Q (.ref p) (upd H p (.dK (mergeK [] kvs)))
theorem call_dictPT (hcalm : X.calm = true) : CallR X (.type "dict") (rDictPT X.K) := by
  intro pins s σ H xs us Q I r q
  obtain ⟨a, o, ps, kvs, ex, hq, hd, hp, q⟩ := q
  subst ex
  obtain ⟨u, eu, rx⟩ := vals1 r
  subst eu
  cases rx
  obtain ⟨ho, hz, its, rv, o', ho', hc, n, hdat⟩ := (show ObjOk X.prog X.w H s.heap a (.frz o (.tup (ps.map V.ref))) from I.hok a _ hq)
  rw [ho] at ho'
  cases ho'
  have ei := refs_at rv
  subst ei
  rw [List.length_map] at hz
  obtain ⟨prs, qs, rel, hl, hl2, hpr⟩ := pairs_of2 I hp
  have key := PySem.call_dict_pairs (prog := X.prog) (w := X.w) (A := X.A) (E := X.xe) (knd := mixKind X.prog X.w) (kvs := prs) (Q := EP X pins σ Q) (PairArg.tuple a (ps.map Value.ref).toArray (fun j => ps.getD j 0) qs) (I.ok.hd hcalm) (s := s)
    ⟨⟨o, n, ho, hc, hd, hdat⟩, by rw [List.size_toArray, List.length_map]; exact hl2.symm, fun j k v e => ?_⟩ ⟨by rw [hl, hl2], fun i k v e => ?_⟩ (by rw [hl2]; exact hz) fun h' tk hd' k => ?_
  · exact key
  · obtain ⟨b, k', e1, e2, e3, e4⟩ := hpr j k v e
    refine ⟨?_, .inl ?_⟩
    · rw [List.getElem?_toArray, List.getElem?_map, e1]
      simp [e1]
    · show s.heap.IsTuple (ps.getD j 0) #[k, v]
      rw [show ps.getD j 0 = b by simp [e1]]
      exact e2
  · obtain ⟨b, k', e1, e2, e3, e4⟩ := hpr i k v e
    exact ⟨k', e3, e4⟩
  · have hm : (s.heap.objs.size == sysModules) = false := beq_eq_false_iff_ne.mpr (Nat.ne_of_gt I.big)
    have hlen : (mergeK [] kvs).length ≤ sizeLine := by
      refine Nat.le_trans (length_mergeK kvs []) ?_
      rw [List.length_nil, Nat.zero_add, rel.length, hl]
      exact hz
    exact ⟨.ref s.heap.objs.size, upd H s.heap.objs.size (.dK (mergeK [] kvs)), I.laid (t' := tk) (fun b o e => k b o (fun z => nomatch z) e) (Nat.le_refl _) (show ObjOk X.prog X.w _ _ _ (.dK (mergeK [] kvs)) from ⟨hlen, hm, merged [] prs, KV.merge rel .nil, hd'⟩), rfl, q _ (I.hok.fresh (Nat.le_refl _))⟩
/-- d.update(d2), two dicts -/
def rDUpd : V → List V → Hp → VK → Prop := fun x vs H Q => ∃ (a b : Addr) (ks ls : List (Key × V)), x = .ref a ∧ vs = [.ref b] ∧ a ≠ b ∧ H a = some (.dK ks) ∧ H b = some (.dK ls) ∧ ks.length + ls.length ≤ 1000 ∧ Q .non (upd H a (.dK (mergeK ks ls)))
theorem mtd_update : MtR X "dict.update" rDUpd := by
  intro pins s σ H x vs v us Q I rx rv h
  obtain ⟨a, b, ks, ls, rfl, rfl, hab, ea, eb, hz, q⟩ := h
  obtain rfl : v = Value.ref a := rx
  obtain ⟨u, rfl, ru⟩ := vals1 rv
  obtain rfl : u = Value.ref b := ru
  obtain ⟨z1, hd, vs, rel, dd⟩ := dk_of I.hok ea
  obtain ⟨z2, hd2, ws, rel2, dd2⟩ := dk_of I.hok eb
  refine call_meetsIn PySem.F.slot_dict_update dd.typeIs PySem.F.entry_dict_update (PySem.F.args_dict_update_2 _ _) (meets_dict_update (mixKind X.prog X.w) a b hab hd2)
    ⟨vs, ws, dd, dd2, by rw [← rel.length, ← rel2.length, sizeLine_eq]; omega, fun h' dd' _ hs => ?_⟩
  have he : ∃ q, h'.get? a = some q := let ⟨q, _, _, hq, _⟩ := dd'; ⟨q, hq⟩
  refine ⟨.non, _, d_write (t' := s.toks) I (by rw [ea]; exact True.intro) hs he (dk_new ?_ hd (KV.merge rel2 rel) dd'), rfl, q⟩
  have := length_mergeK ls ks
  rw [sizeLine_eq]
  omega
end
end K27

set_option maxHeartbeats 4000000
/-! What the program's tuples stand for. -/
namespace K27
open PySem PySem.Spec PyProof.Rows L2
mutual
def Tm.data : Tm → PyData
  | .num i => .int i
  | .nm x => .str x
  | .name x => .tuple [.str "name", .str x]
  | .call f a => .tuple [.str "call", .str f, .tuple (dataL a)]
  | .use t h a => .tuple [.str "use", .str t, .str h, .tuple (dataL a)]
def dataL : List Tm → List PyData
  | [] => []
  | t :: r => t.data :: dataL r
end
theorem dataL_map : ∀ a : List Tm, dataL a = a.map Tm.data
  | [] => by simp only [dataL, List.map_nil]
  | t :: r => by simp only [dataL, List.map_cons, dataL_map r]
def Item.data : Item → PyData
  | .sign s => .tuple [.str "sign", .str s]
  | .lit => .tuple [.str "lit"]
  | .name k => .tuple [.str "name", .str k]
  | .term k os => .tuple [.str "term", .str k, .tuple (os.map fun j => .int (j : Nat))]
def formD (q : Form × PyData) : PyData := .tuple [.str q.1.head, .tuple (q.1.items.map Item.data), .str q.1.kind, q.2]
def pairD (q : Str × Str) : PyData := .tuple [.str q.1, .str q.2]
structure Tongue where
  name : Str
  below : Str
  kinds : List (Str × Str)
  faults : List Str
  tells : List Str
  forms : List (Form × PyData)
def Tongue.data (t : Tongue) : PyData := .tuple [.str "tongue", .str t.name, .str t.below, .tuple (t.kinds.map pairD), .tuple (t.faults.map .str), .tuple (t.tells.map .str), .tuple (t.forms.map formD)]
structure Row where
  name : Str
  params : List (Str × Str)
  kind : Str
  body : Tm
def Row.data (r : Row) : PyData := .tuple [.str r.name, .list (r.params.map pairD), .str r.kind, r.body.data]
structure Part where
  name : Str
  own : Str
  rows : List Row
def Part.data (p : Part) : PyData := .tuple [.str "part", .str p.name, .str p.own, .tuple (p.rows.map Row.data)]
inductive It where
  | tong (t : Tongue)
  | part (p : Part)
def It.data : It → PyData
  | .tong t => t.data
  | .part p => p.data
def It.name : It → Str
  | .tong t => t.name
  | .part p => p.name
def It.third : It → Str
  | .tong t => t.below
  | .part p => p.own
abbrev Hd := Str × List Str × Str
def headD (q : Hd) : PyData := .tuple [.str q.1, .tuple (q.2.1.map .str), .str q.2.2]
def oneI : Item := .term "num" []
def openI : Item := .term "num" [0]
def nameI : Item := .name "num"
def groundRows : List (Str × List Item) := [("NUM", [.lit]), ("+", [oneI, oneI]), ("-", [oneI, oneI]), ("*", [oneI, oneI]), ("/", [oneI, oneI]), ("<", [oneI, oneI]), ("=", [oneI, oneI]), ("IF", [oneI, oneI, oneI]), ("NEED", [oneI, oneI]), ("LET", [nameI, oneI, openI]), ("LOOP", [oneI, nameI, oneI, openI])]
def groundT : Tongue := ⟨"ground", "", [("num", "")], ["nought", "need"], [], groundRows.map fun q => (⟨q.1, q.2, "num"⟩, .none)⟩
theorem groundD_eq : groundD = groundT.data := by rfl
def isTong (x : Str) : It → Bool
  | .tong t => decide (t.name = x)
  | .part _ => false
def asTong : It → Tongue
  | .tong t => t
  | .part _ => groundT
def tongueOf (tw : List It) (x : Str) : Tongue := match tw.find? (isTong x) with
  | some i => asTong i
  | none => groundT
def rowHead (p : Part) (r : Row) : Hd := (p.name ++ "." ++ r.name, r.params.map (·.2), r.kind)
def headsIn (own : Str) : It → List Hd
  | .tong _ => []
  | .part p => if p.own = own then p.rows.map (rowHead p) else []
def headsOf (tw : List It) (own : Str) : List Hd := tw.flatMap (headsIn own)
def langOf (tw : List It) (own : Str) : Lang := ⟨own, (tongueOf tw own).forms.map (·.1), headsOf tw own⟩
end K27

/-! The plain law, second part: terms that are made right. -/
namespace K27
open PySem
mutual
def Tm.dep : Tm → Nat
  | .num _ => 0
  | .nm _ => 0
  | .name _ => 1
  | .call _ a => 1 + depL a
  | .use _ _ a => 1 + depL a
def depL : List Tm → Nat
  | [] => 0
  | t :: r => max t.dep (depL r)
end
def envL (ps : List (Str × Str)) : Sg := ps.foldl (fun r p => r.up p.1 p.2) fun _ => none
theorem envL_app (ps qs : List (Str × Str)) : envL (ps ++ qs) = qs.foldl (fun r p => r.up p.1 p.2) (envL ps) := by
  unfold envL
  rw [List.foldl_append]
theorem opened_app {r : Sg} {ns ms : List (Str × Str)} : ∀ {os : List Nat}, (∀ j ∈ os, j < ns.length) → opened r (ns ++ ms) os = opened r ns os := by
  intro os
  unfold opened
  induction os generalizing r with
  | nil => intro _; rfl
  | cons j os ih =>
    intro h
    rw [List.foldl_cons, List.foldl_cons, List.getElem?_append_left (h j List.mem_cons_self)]
    exact ih fun i hi => h i (List.mem_cons_of_mem _ hi)
/-- the named pairs at the places os -/
def pick (ns : List (Str × Str)) (os : List Nat) : List (Str × Str) := os.filterMap fun j => ns[j]?
theorem opened_pick {ns : List (Str × Str)} : ∀ {os : List Nat} {r : Sg}, opened r ns os = (pick ns os).foldl (fun r p => r.up p.1 p.2) r := by
  intro os
  induction os with
  | nil => intro r; rfl
  | cons j os ih =>
    intro r
    unfold opened pick at *
    rw [List.foldl_cons, List.filterMap_cons]
    cases ns[j]? with
    | none => exact ih
    | some p => exact ih
structure Fit (L : Lang) (r : Sg) (S D : Nat) (done : List Item) (ths : List Tm) (made : List (Str × Str)) : Prop where
  len : done.length = ths.length
  fits : (done.zip ths).all fits = true
  lit : (done.zip ths).all litOk = true
  bind : binds (done.zip ths) = made
  good : ∀ x ∈ (done.zip ths).filterMap (entryOf r made), Good L x
  opn : ∀ k os, Item.term k os ∈ done → ∀ j ∈ os, j < made.length
  sz : psizeL ths ≤ ths.length * S
  dp : depL ths ≤ D
theorem psizeL_app : ∀ (a b : List Tm), psizeL (a ++ b) = psizeL a + psizeL b
  | [], b => by simp [psizeL]
  | t :: a, b => by simp only [List.cons_append, psizeL, psizeL_app a b]; omega
theorem depL_app : ∀ (a b : List Tm), depL (a ++ b) = max (depL a) (depL b)
  | [], b => by simp [depL]
  | t :: a, b => by simp only [List.cons_append, depL, depL_app a b]; omega
theorem Fit.nil {L : Lang} {r : Sg} {S D : Nat} : Fit L r S D [] [] [] := ⟨rfl, rfl, rfl, rfl, fun _ h => by simp at h, fun _ _ h => by simp at h, by simp [psizeL], by simp [depL]⟩
theorem zip_snoc {α β : Type} {l : List α} {m : List β} {a : α} {b : β} (h : l.length = m.length) : (l ++ [a]).zip (m ++ [b]) = l.zip m ++ [(a, b)] := by
  rw [List.zip_append h]
  rfl
theorem Fit.add {L : Lang} {r : Sg} {S D : Nat} {done : List Item} {ths : List Tm} {made ms : List (Str × Str)} {it : Item} {t : Tm} (f : Fit L r S D done ths made) (h1 : K27.fits (it, t) = true) (h2 : litOk (it, t) = true)
    (h3 : (bindOf (it, t)).toList = ms) (h4 : ∀ x, entryOf r (made ++ ms) (it, t) = some x → Good L x) (h5 : ∀ k os, it = .term k os → ∀ j ∈ os, j < made.length) (h6 : isT t = true → psize t ≤ S ∧ t.dep ≤ D) (h7 : isT t = false → t.dep = 0) :
    Fit L r S D (done ++ [it]) (ths ++ [t]) (made ++ ms) := by
  obtain ⟨a1, a2, a3, a4, a5, a6, a7, a8⟩ := f
  have hz := zip_snoc (a := it) (b := t) a1
  refine ⟨by rw [List.length_append, List.length_append, a1]; rfl, ?_, ?_, ?_, ?_, ?_, ?_, ?_⟩
  · rw [hz, List.all_append, a2]
    simp [h1]
  · rw [hz, List.all_append, a3]
    simp [h2]
  · rw [hz]
    unfold binds at a4 ⊢
    rw [List.filterMap_append, a4, ← h3]
    cases hb : bindOf (it, t) with
    | none => simp [hb]
    | some p => simp [hb]
  · intro x hx
    rw [hz, List.filterMap_append] at hx
    rcases List.mem_append.mp hx with hx | hx
    · obtain ⟨p, hp, he⟩ := List.mem_filterMap.mp hx
      refine a5 x (List.mem_filterMap.mpr ⟨p, hp, ?_⟩)
      obtain ⟨i, u⟩ := p
      have hi := (List.of_mem_zip hp).1
      cases i with
      | term k os =>
        have he' : some (u, opened r (made ++ ms) os, k) = some x := he
        rw [opened_app (a6 k os hi)] at he'
        exact he'
      | _ => cases he
    · obtain ⟨p, hp, he⟩ := List.mem_filterMap.mp hx
      rw [List.mem_singleton] at hp
      subst hp
      exact h4 x he
  · intro k os hm j hj
    rw [List.length_append]
    rcases List.mem_append.mp hm with hm | hm
    · have := a6 k os hm j hj
      omega
    · rw [List.mem_singleton] at hm
      have := h5 k os hm.symm j hj
      omega
  · rw [psizeL_app, List.length_append]
    simp only [psizeL, List.length_cons, List.length_nil]
    cases ht : isT t with
    | true =>
      have h := (h6 ht).1
      rw [if_pos rfl, Nat.add_mul]
      omega
    | false =>
      rw [if_neg (by decide), Nat.add_mul]
      omega
  · rw [depL_app]
    simp only [depL]
    cases ht : isT t with
    | true =>
      have h := (h6 ht).2
      omega
    | false =>
      have h := h7 ht
      omega
theorem name_good {L : Lang} {r : Sg} {x k : Str} (h : r x = some k) : Good L (.name x, r, k) := by
  refine .mk ?_ fun y hy => ?_
  · unfold wrong
    simp only [h, if_true]
  · have e : inner L (.name x, r, k) = [] := rfl
    rw [e] at hy
    cases hy
theorem use_good {L : Lang} {r : Sg} {S D : Nat} {f : Form} {k : Str} {ths : List Tm} {made : List (Str × Str)} (hf : L.form f.head = some f) (fit : Fit L r S D f.dues ths made) (hb : bindOk made = true) (hk : f.kind = k) :
    Good L (.use L.name f.head ths, r, k) := by
  have hs : slots L (.use L.name f.head ths) = f.dues := by unfold slots; simp only [hf]
  have hbo : both L (.use L.name f.head ths) = f.dues.zip ths := by unfold both; rw [hs]; rfl
  have hw : wrongThings L (.use L.name f.head ths) = none := by
    unfold wrongThings
    rw [hbo, hs, fit.fits, fit.lit, fit.bind, hb]
    have hl : f.dues.length = (things (.use L.name f.head ths)).length := fit.len
    simp [hl]
  refine .mk ?_ fun x hx => ?_
  · unfold wrong
    simp only [if_true, hf, hw, hk]
  · unfold inner at hx
    simp only [hbo, fit.bind] at hx
    exact fit.good x hx
theorem call_good {L : Lang} {r : Sg} {f : Str} {ks : List Str} {k : Str} {args : List Tm} (hf : L.head f = some (f, ks, k)) (hl : ks.length = args.length) (ht : ∀ t ∈ args, isT t = true) (hg : ∀ q ∈ ks.zip args, Good L (q.2, r, q.1)) :
    Good L (.call f args, r, k) := by
  have hs : slots L (.call f args) = ks.map fun k => .term k [] := by unfold slots; simp only [hf]
  have hbo : both L (.call f args) = (ks.map fun k => Item.term k []).zip args := by unfold both; rw [hs]; rfl
  have hz : ((ks.map fun k => Item.term k []).zip args) = (ks.zip args).map fun q => (Item.term q.1 [], q.2) := by
    rw [List.zip_map_left]
    rfl
  have h1 : (both L (.call f args)).all fits = true := by
    rw [hbo, hz, List.all_map]
    refine List.all_eq_true.mpr fun q hq => ?_
    exact ht q.2 (List.of_mem_zip hq).2
  have h2 : (both L (.call f args)).all litOk = true := by
    rw [hbo, hz, List.all_map]
    exact List.all_eq_true.mpr fun q hq => rfl
  have h3 : binds (both L (.call f args)) = [] := by
    unfold binds
    rw [hbo, hz, List.filterMap_map]
    exact List.filterMap_eq_nil_iff.mpr fun q hq => rfl
  have hw : wrongThings L (.call f args) = none := by
    unfold wrongThings
    rw [h1, h2, h3, hs]
    have hl' : (things (.call f args)).length = ks.length := hl.symm
    simp [hl', bindOk]
  refine .mk ?_ fun x hx => ?_
  · unfold wrong
    simp only [hf, hw, if_true]
  · unfold inner at hx
    simp only [h3] at hx
    rw [hbo, hz] at hx
    obtain ⟨p, hp, he⟩ := List.mem_filterMap.mp hx
    obtain ⟨q, hq, rfl⟩ := List.mem_map.mp hp
    have e := Option.some.inj he
    rw [← e]
    exact hg q hq
/-! ### more names in sight, more heads -/
theorem Good.mono {L L' : Lang} (hn : L'.name = L.name) (hf : ∀ h f, L.form h = some f → L'.form h = some f) (hh : ∀ h p, L.head h = some p → L'.head h = some p) {e : Entry} (g : Good L e) :
    ∀ r' : Sg, (∀ x k, e.2.1 x = some k → r' x = some k) → Good L' (e.1, r', e.2.2) := by
  induction g with
  | mk a b ih =>
    rename_i e
    obtain ⟨t, r, d⟩ := e
    intro r' hr
    simp only at hr ⊢
    have hsl : slots L' t = slots L t := by
      cases t with
      | call f as =>
        unfold wrong at a
        simp only at a
        unfold slots
        cases hq : L.head f with
        | none => rw [hq] at a; cases a
        | some p => simp only [hh f p hq, hq]
      | use t' h as =>
        unfold wrong at a
        simp only at a
        unfold slots
        cases hq : L.form h with
        | none =>
          rw [hq] at a
          split at a <;> cases a
        | some p => simp only [hf h p hq, hq]
      | _ => rfl
    have hbo : both L' t = both L t := by unfold both; rw [hsl]
    have hwt : wrongThings L' t = wrongThings L t := by unfold wrongThings; rw [hsl, hbo]
    have hin : ∀ {os : List Nat} {ns : List (Str × Str)} {r r' : Sg}, (∀ x k, r x = some k → r' x = some k) → ∀ x k, opened r ns os x = some k → opened r' ns os x = some k := by
      intro os ns
      unfold opened
      induction os with
      | nil => intro r r' h; exact h
      | cons j os ih =>
        intro r r' h
        rw [List.foldl_cons, List.foldl_cons]
        refine ih ?_
        cases ns[j]? with
        | none => exact h
        | some p =>
          intro x k hx
          show (if x = p.1 then some p.2 else r' x) = some k
          have hx' : (if x = p.1 then some p.2 else r x) = some k := hx
          by_cases e : x = p.1
          · rw [if_pos e] at hx' ⊢
            exact hx'
          · rw [if_neg e] at hx' ⊢
            exact h x k hx'
    refine .mk ?_ fun x hx => ?_
    · unfold wrong at a ⊢
      cases t with
      | num i => cases a
      | nm i => cases a
      | name x =>
        simp only at a ⊢
        cases hq : r x with
        | none => rw [hq] at a; cases a
        | some k =>
          rw [hq] at a
          rw [hr x k hq]
          exact a
      | call f as =>
        simp only at a ⊢
        cases hq : L.head f with
        | none => rw [hq] at a; cases a
        | some p =>
          rw [hq] at a
          rw [hh f p hq, hwt]
          exact a
      | use t' h as =>
        simp only at a ⊢
        rw [hn, hwt]
        by_cases ht : t' = L.name
        · rw [if_pos ht] at a ⊢
          cases hq : L.form h with
          | none => rw [hq] at a; cases a
          | some p =>
            rw [hq] at a
            rw [hf h p hq]
            exact a
        · rw [if_neg ht] at a
          cases a
    · unfold inner at hx
      simp only [hbo] at hx
      obtain ⟨p, hp, he⟩ := List.mem_filterMap.mp hx
      obtain ⟨i, u⟩ := p
      cases i with
      | term k os =>
        have e := Option.some.inj he
        have hm : (u, opened r (binds (both L t)) os, k) ∈ inner L (t, r, d) := List.mem_filterMap.mpr ⟨_, hp, rfl⟩
        have g := ih _ hm (opened r' (binds (both L t)) os) (hin hr)
        rw [← e]
        exact g
      | _ => cases he
end K27

namespace K27
open PySem
theorem Good.isT' {L : Lang} {e : Entry} (g : wrong L e = none) : isT e.1 = true := by
  obtain ⟨t, r, k⟩ := e
  cases t <;> first | rfl | (unfold wrong at g; cases g)
theorem Good.pre_any {L : Lang} {t : Tm} {r : Sg} {k k' : Str} (g : Good L (t, r, k)) : ∀ y ∈ pre L (t, r, k'), y = (t, r, k') ∨ Good L y := by
  intro y hy
  rw [pre_eq] at hy
  rcases List.mem_cons.mp hy with h | h
  · exact .inl h
  · obtain ⟨z, hz, hyz⟩ := List.mem_flatMap.mp h
    exact .inr ((g.sub (x := z) hz).mem y hyz)
theorem Good.pre_len_any {L : Lang} {t : Tm} {r : Sg} {k k' : Str} (g : Good L (t, r, k)) : (pre L (t, r, k')).length = psize t := by
  have h := pre_len g
  rw [pre_eq, List.length_cons] at h ⊢
  exact h
theorem put_len_L {L : Lang} {r : Sg} {ns : List (Str × Str)} {o : Tm} (ho : isT o = true) : ∀ (ss : List Item) (a : List Tm) (p : Nat) (x : Entry), ss.length = a.length → (ss.zip a).all fits = true →
    (∀ y ∈ (ss.zip a).filterMap (entryOf r ns), Good L y ∧ ∀ (p : Nat) (x : Entry), (pre L y)[p]? = some x → (pre L (put y.1 p o, y.2)).length ≤ (pre L (o, x.2)).length + (pre L y).length) →
    (((ss.zip a).filterMap (entryOf r ns)).flatMap (pre L))[p]? = some x →
    (((ss.zip (putL a p o)).filterMap (entryOf r ns)).flatMap (pre L)).length ≤ (pre L (o, x.2)).length + (((ss.zip a).filterMap (entryOf r ns)).flatMap (pre L)).length
  | [], [], _, _, _, _, _, hx => by simp at hx
  | [], _ :: _, _, _, h, _, _, _ => by cases h
  | _ :: _, [], _, _, h, _, _, _ => by cases h
  | s :: ss, t :: a, p, x, h, hf, ih, hx => by
    rw [List.zip_cons_cons] at hf ih hx
    rw [List.all_cons, Bool.and_eq_true] at hf
    have rec' := put_len_L (L := L) (r := r) (ns := ns) ho ss a
    have hl : ss.length = a.length := by simpa using h
    rw [List.filterMap_cons] at ih hx
    rw [List.zip_cons_cons, List.filterMap_cons]
    unfold putL
    cases s with
    | sign s => cases t <;> cases hf.1
    | lit =>
      cases t with
      | num i =>
        have e : isT (.num i) = false := rfl
        simp only [entryOf, e, Bool.false_eq_true, false_and, if_false, Nat.sub_zero, List.zip_cons_cons, List.filterMap_cons] at ih hx ⊢
        exact rec' p x hl hf.2 ih hx
      | _ => cases hf.1
    | name k =>
      cases t with
      | nm i =>
        have e : isT (.nm i) = false := rfl
        simp only [entryOf, e, Bool.false_eq_true, false_and, if_false, Nat.sub_zero, List.zip_cons_cons, List.filterMap_cons] at ih hx ⊢
        exact rec' p x hl hf.2 ih hx
      | _ => cases hf.1
    | term k os =>
      have e : isT t = true := hf.1
      simp only [entryOf, e, if_true, true_and] at ih hx ⊢
      rw [List.flatMap_cons] at hx ⊢
      have hg := ih _ List.mem_cons_self
      have hlen := pre_len hg.1
      simp only at hlen
      rw [List.length_append]
      split
      · rename_i hc
        rw [List.getElem?_append_left (by rw [hlen]; exact hc)] at hx
        have h1 := hg.2 p x hx
        rw [List.zip_cons_cons, List.filterMap_cons]
        simp only [entryOf]
        rw [List.flatMap_cons, List.length_append]
        simp only at h1
        omega
      · rename_i hc
        rw [List.getElem?_append_right (by rw [hlen]; omega), hlen] at hx
        have h1 := rec' (p - psize t) x hl hf.2 (fun y hy => ih y (List.mem_cons_of_mem _ hy)) hx
        rw [List.zip_cons_cons, List.filterMap_cons]
        simp only [entryOf]
        rw [List.flatMap_cons, List.length_append]
        omega
theorem put_len {L : Lang} {e : Entry} (g : Good L e) {o : Tm} (ho : isT o = true) : ∀ (p : Nat) (x : Entry), (pre L e)[p]? = some x → (pre L (put e.1 p o, e.2)).length ≤ (pre L (o, x.2)).length + (pre L e).length := by
  induction g with
  | mk a b ih =>
    rename_i e
    intro p x hx
    cases p with
    | zero =>
      rw [pre_eq] at hx
      have hx : e = x := Option.some.inj hx
      subst hx
      have e0 : put e.1 0 o = o := by cases e.1 <;> simp only [put]
      rw [e0]
      omega
    | succ p =>
      obtain ⟨h1, h2⟩ := things_of_ok a
      have hx' := hx
      rw [pre_eq, List.getElem?_cons_succ] at hx
      have key := put_len_L (L := L) (r := e.2.1) (ns := binds (both L e.1)) ho (slots L e.1) (things e.1) p x h1 h2 (fun y hy => ⟨b y hy, ih y hy⟩) hx
      have hs := putL_same (slots L e.1) (things e.1) p o ho
      have hi : inner L (put e.1 (p + 1) o, e.2) = ((slots L e.1).zip (putL (things e.1) p o)).filterMap (entryOf e.2.1 (binds (both L e.1))) := by
        unfold inner both
        simp only [slots_put, things_put, hs.2.2]
      rw [pre_eq L (put e.1 (p + 1) o, e.2), hi, pre_eq L e, List.length_cons, List.length_cons]
      have key' : ((((slots L e.1).zip (putL (things e.1) p o)).filterMap (entryOf e.2.1 (binds (both L e.1)))).flatMap (pre L)).length ≤ (pre L (o, x.2)).length + ((inner L e).flatMap (pre L)).length := key
      omega
mutual
theorem dep_put : ∀ (t : Tm) (p : Nat) (o : Tm), (put t p o).dep ≤ t.dep + o.dep
  | .num _, 0, o => by simp only [put]; omega
  | .nm _, 0, o => by simp only [put]; omega
  | .name _, 0, o => by simp only [put]; omega
  | .call _ _, 0, o => by simp only [put]; omega
  | .use _ _ _, 0, o => by simp only [put]; omega
  | .num _, p + 1, o => by simp only [put]; omega
  | .nm _, p + 1, o => by simp only [put]; omega
  | .name _, p + 1, o => by simp only [put]; omega
  | .call _ a, p + 1, o => by
    simp only [put, Tm.dep]
    have := depL_putL a p o
    omega
  | .use _ _ a, p + 1, o => by
    simp only [put, Tm.dep]
    have := depL_putL a p o
    omega
theorem depL_putL : ∀ (a : List Tm) (p : Nat) (o : Tm), depL (putL a p o) ≤ depL a + o.dep
  | [], p, o => by simp only [putL]; omega
  | t :: r, p, o => by
    unfold putL
    split
    · simp only [depL]
      have := dep_put t p o
      omega
    · simp only [depL]
      have := depL_putL r (p - (if isT t = true then psize t else 0)) o
      omega
end
/-- all parts, a term put in a place -/
theorem put_all {L : Lang} {e x : Entry} {o : Tm} {p : Nat} (g : Good L e) (hx : (pre L e)[p]? = some x) (ho : isT o = true) : ∀ y ∈ pre L (put e.1 p o, e.2), wrong L y = none ∨ y ∈ pre L (o, x.2) := by
  obtain ⟨A, B, e1, e2, e3, e4⟩ := (put_pre g ho p x hx).ex
  intro y hy
  rw [e1] at hy
  rcases List.mem_append.mp hy with hy | hy
  · exact .inl (e3 y hy)
  · rcases List.mem_append.mp hy with hy | hy
    · exact .inr hy
    · exact .inl (e4 y hy)
theorem name_pre {L : Lang} {x : Str} {r : Sg × Str} : pre L (.name x, r) = [(.name x, r)] := by
  rw [pre_eq]
  rfl
/-- a part's part is no deeper -/
theorem depL_ge {t : Tm} {a : List Tm} (h : t ∈ a) : t.dep ≤ depL a := by
  induction a with
  | nil => cases h
  | cons u a ih =>
    simp only [depL]
    rcases List.mem_cons.mp h with rfl | h
    · omega
    · have := ih h
      omega
theorem pre_dep {L : Lang} : ∀ {e y : Entry}, y ∈ pre L e → y.1.dep ≤ e.1.dep ∧ (isT e.1 = true → isT y.1 = true ∨ True) := by
  intro e
  suffices ∀ n, ∀ e : Entry, sizeOf e.1 ≤ n → ∀ y ∈ pre L e, y.1.dep ≤ e.1.dep from fun {y} hy => ⟨this _ e (Nat.le_refl _) y hy, fun _ => .inr trivial⟩
  intro n
  induction n with
  | zero =>
    intro e he
    have : 0 < sizeOf e.1 := by cases e.1 <;> simp <;> omega
    omega
  | succ n ih =>
    intro e he y hy
    rw [pre_eq] at hy
    rcases List.mem_cons.mp hy with rfl | hy
    · exact Nat.le_refl _
    · obtain ⟨z, hz, hyz⟩ := List.mem_flatMap.mp hy
      have hm := mem_inner hz
      have hlt := mem_things_lt hm
      have h1 := ih z (by omega) y hyz
      have h2 := depL_ge hm
      have h3 : depL (things e.1) ≤ e.1.dep := by cases e.1 <;> simp only [things, Tm.dep, depL] <;> omega
      omega
end K27

set_option maxHeartbeats 4000000
namespace K27
open PySem PySem.Spec PyProof.Rows L2
variable {P : Program} {w : World} {K : PySem.W.Frag} {mg : Str → Option Value} {base : Heap}
/-! ### take -/
def spTake : Sp := fun vs H Q _ => ∃ (b : Addr) (n : Int), vs = [.ref b, .int n] ∧ Bx H b ∧ 0 < n ∧ n < 1073741824 ∧
  ∀ r H', 0 ≤ r → r < n → But b H H' → Bx H' b → Q (.int r) H'
abbrev N_Ltake : List Str := ["_law_box_here", "_law_many", "_law_digit", "_law_one"]
theorem sc_Ltake : FnScope N_Ltake ["_law_box_here", "_law_many"] (defScope s_Ltake) := ⟨rfl, rfl, rfl, by decide +kernel, rfl, by decide +kernel, by decide +kernel⟩
theorem ok_Ltake (T : TX K mg) : Ok P w K mg base CX0 1 "_law_take" ["_law_box_here", "_law_many"] spTake := by
  refine Ok.mk' T T.m_Ltake T.f_Ltake sc_Ltake (fun vs H Q E h => ?_) (fun _ _ _ _ _ _ us hl => match us, hl with | [_, _], _ => rfl) (fun cdv A outer s H vs Q E hr h => ?_)
  · obtain ⟨b, n, rfl, _⟩ := h
    rfl
  · obtain ⟨b, n, rfl, ⟨i, j, k, hb⟩, h0, h1, q⟩ := h
    refine ⟨_, (pss_cons (ps_if (pt_cmpR op_gt (pe_ix ix_list (pv 0) pe_int (fun _ _ => rfl)) pe_int (nomark _))
        (pss_cons (ps_set (i := 2) sc_Ltake.nd rfl (Or.inl rfl) (pe_op op_mod (pe_ix ix_list (pv 0) pe_int (fun _ _ => rfl)) (pv 1)))
        (pss_cons (ps_asg (pe_op op_fdiv (pe_ix ix_list (pv 0) pe_int (fun _ _ => rfl)) (pv 1)) (pg_sub (pv 0) pe_int set_list))
        (pss_one (ps_ret (pv 2)))))
        pss_nil)
      (pss_cons (ps_asg (pe_op op_add (pe_ix ix_list (pv 0) pe_int (fun _ _ => rfl)) pe_int) (pg_sub (pv 0) pe_int set_list))
      (pss_cons (ps_set (i := 3) sc_Ltake.nd rfl (Or.inl rfl) (pe_op op_mod (pe_op op_mul (pe_op op_add (pe_ix ix_list (pv 0) pe_int (fun _ _ => rfl)) (pe_op op_mul pe_int (pe_ix ix_list (pv 0) pe_int (fun _ _ => rfl)))) pe_int) pe_int))
      (pss_cons (ps_asg (pe_op op_add (pe_op op_mod (pe_op op_add (pe_op op_mul (pv 3) pe_int) pe_int) pe_int) pe_int) (pg_sub (pv 0) pe_int set_list))
      (pss_one (ps_ret (pe_op op_mod (pe_op op_fdiv (pe_op op_add (pe_op op_mul (pv 3) pe_int) (pe_ix ix_list (pv 0) pe_int (fun _ _ => rfl))) pe_int) (pv 1)))))))), ?_⟩
    refine ⟨_, rfl, b, _, 0, _, rfl, rfl, .inl (.inl hb), rfl, _, _, rfl, rfl, _, rfl, ite2 (fun _ => ?_) (fun _ => ?_)⟩
    · refine ⟨_, rfl, b, _, 0, _, rfl, rfl, .inl (.inl hb), rfl, _, rfl, _, _, rfl, rfl, h0, ?_⟩
      refine ⟨_, rfl, b, _, 0, _, rfl, rfl, .inl (.inl hb), rfl, _, rfl, _, _, rfl, rfl, ⟨h0, h1⟩, ?_⟩
      refine ⟨_, rfl, b, _, 0, 0, rfl, rfl, hb, rfl, _, rfl, ?_⟩
      exact q _ _ (Int.emod_nonneg _ (by omega)) (Int.emod_lt_of_pos _ h0) (But.put (But.refl _ _)) ⟨_, _, _, upd_same⟩
    · refine ⟨_, rfl, b, _, 2, _, rfl, rfl, .inl (.inl hb), rfl, _, _, rfl, rfl, _, rfl, b, _, 2, 2, rfl, rfl, hb, rfl, ?_⟩
      refine ⟨_, rfl, b, _, 1, _, rfl, rfl, .inl (.inl upd_same), rfl, _, rfl, b, _, 2, _, rfl, rfl, .inl (.inl upd_same), rfl, _, _, rfl, rfl, .inl (by decide), _, _, rfl, rfl, _, _, rfl, rfl, .inr (by decide), _, _, rfl, rfl, (by show (0 : Int) < 2147483647; decide), ?_⟩
      refine ⟨_, rfl, _, _, rfl, rfl, .inr (by decide), _, _, rfl, rfl, _, _, rfl, rfl, (by show (0 : Int) < 2147483629; decide), _, _, rfl, rfl, _, rfl, b, _, 1, 1, rfl, rfl, upd_same, rfl, ?_⟩
      refine ⟨_, rfl, _, _, rfl, rfl, .inr (by decide), _, rfl, b, _, 1, _, rfl, rfl, .inl (.inl upd_same), rfl, _, _, rfl, rfl, _, _, rfl, rfl, ⟨(by decide), (by decide)⟩, _, rfl, _, _, rfl, rfl, h0, ?_⟩
      exact q _ _ (Int.emod_nonneg _ (by omega)) (Int.emod_lt_of_pos _ h0) (But.put (But.put (But.refl _ _))) ⟨_, _, _, upd_same⟩
/-! ### one_of -/
/-- a thing of which one is taken -/
def SeqV (K : PySem.W.Frag) (H : Hp) (b : Addr) (v : V) (xs : List V) : Prop :=
  (∃ a, v = .ref a ∧ a ≠ b ∧ H a = some (.lst xs)) ∨ (∃ a, v = .ref a ∧ Tu K H a xs) ∨ ∃ z : Str, v = .str z ∧ z.length ≤ 1000 ∧ xs = z.cps.toList.map fun c => .str ⟨#[c]⟩
def spOneOf (K : PySem.W.Frag) : Sp := fun vs H Q _ => ∃ (b : Addr) (v : V) (xs : List V), vs = [.ref b, v] ∧ Bx H b ∧ SeqV K H b v xs ∧ 0 < xs.length ∧ xs.length ≤ 1000 ∧
  ∀ x H', x ∈ xs → But b H H' → Bx H' b → Q x H'
abbrev N_Lone_of : List Str := ["_law_box_here", "_law_some"]
theorem sc_Lone_of : FnScope N_Lone_of ["_law_box_here", "_law_some"] (defScope s_Lone_of) := ⟨rfl, rfl, rfl, by decide +kernel, rfl, by decide +kernel, by decide +kernel⟩
theorem ok_Lone_of (T : TX K mg) : Ok P w K mg base CX0 2 "_law_one_of" ["_law_box_here", "_law_some"] (spOneOf K) := by
  refine Ok.mk' T T.m_Lone_of T.f_Lone_of sc_Lone_of (fun vs H Q E h => ?_) (fun _ _ _ _ _ _ us hl => match us, hl with | [_, _], _ => rfl) (fun cdv A outer s H vs Q E hr h => ?_)
  · obtain ⟨b, n, _, rfl, _⟩ := h
    rfl
  · obtain ⟨b, v, xs, rfl, hb, hv, h0, h1, q⟩ := h
    refine ⟨_, (pss_one (ps_ret (pe_ix ix_seq (pv 1) (pe_ok (ok_Ltake T) hr (by decide) (by rfl) (pa_cons (pv 0) (pa_cons (pe_callB call_len (by rfl) T.n_len PySem.boot_len (pa_cons (pv 1) pa_nil)) pa_nil)) pass0) (fun _ _ => rfl)))), ?_⟩
    have key : LenV K v H xs.length := by
      rcases hv with ⟨a, rfl, _, h⟩ | ⟨a, rfl, h⟩ | ⟨z, rfl, h2, rfl⟩
      · exact .inl ⟨_, .inl (.inl h), rfl⟩
      · exact .inr ⟨_, h.sq, rfl⟩
      · refine ⟨Nat.le_of_lt (small1000 h2), ?_⟩
        rw [List.length_map]
        rfl
    refine ⟨v, rfl, .ref b, rfl, v, rfl, v, xs.length, rfl, key, b, xs.length, rfl, hb, by omega, by omega, fun r H' r0 r1 hB hb' => ?_⟩
    obtain ⟨j, rfl⟩ : ∃ j : Nat, r = (j : Int) := ⟨r.toNat, by omega⟩
    have hj : j < xs.length := by omega
    have hx : xs[j]? = some xs[j] := List.getElem?_eq_getElem hj
    have fin : Q xs[j] H' := q _ _ (List.getElem_mem hj) hB hb'
    rcases hv with ⟨a, rfl, n, h⟩ | ⟨a, rfl, h⟩ | ⟨z, rfl, h2, e⟩
    · exact .inl ⟨a, xs, _, _, rfl, rfl, .inl (.inl (hB _ _ n h)), atI_nat hx, fin⟩
    · exact .inr (.inl ⟨a, xs, _, _, rfl, rfl, (h.mono (hB.tup hb)).sq, atI_nat hx, fin⟩)
    · subst e
      rw [List.getElem?_map] at hx
      have hz : j < z.cps.toList.length := by simpa using hj
      rw [List.getElem?_eq_getElem hz] at hx
      refine .inr (.inr ⟨z, _, z.cps.toList[j], rfl, rfl, Nat.le_of_lt (small1000 h2), atI_nat (List.getElem?_eq_getElem hz), ?_⟩)
      have e1 : V.str ⟨#[z.cps.toList[j]]⟩ = (z.cps.toList.map fun c => V.str ⟨#[c]⟩)[j] := Option.some.inj hx
      rw [e1]
      exact fin
end K27

set_option maxHeartbeats 4000000
namespace K27
open PySem PySem.Spec PyProof.Rows L2
variable {P : Program} {w : World} {K : PySem.W.Frag} {mg : Str → Option Value} {base : Heap}
/-! ### box -/
def spBox (K : PySem.W.Frag) : Sp := fun vs H Q _ => ∃ (a : Addr) (ns : List Int) (k : Nat), vs = [.ref a, .int k] ∧ SqL K H a (ns.map V.int) ∧ ns.length ≤ 1000 ∧
  ∀ p H', Same H H' → H p = none → Bx H' p → Q (.ref p) H'
abbrev N_Lbox : List Str := ["_law_script", "_law_k", "_law_cell", "_law_seed"]
theorem sc_Lbox : FnScope N_Lbox ["_law_script", "_law_k"] (defScope s_Lbox) := ⟨rfl, rfl, rfl, by decide +kernel, rfl, by decide +kernel, by decide +kernel⟩
theorem ok_Lbox (T : TX K mg) : Ok P w K mg base CX0 1 "_law_box" ["_law_script", "_law_k"] (spBox K) := by
  refine Ok.mk' T T.m_Lbox T.f_Lbox sc_Lbox (fun vs H Q E h => ?_) (fun _ _ _ _ _ _ us hl => match us, hl with | [_, _], _ => rfl) (fun cdv A outer s H vs Q E hr h => ?_)
  · obtain ⟨b, n, _, rfl, _⟩ := h
    rfl
  · obtain ⟨a, ns, k, rfl, hS, hl, q⟩ := h
    refine ⟨_, (pss_cons (ps_set (i := 2) sc_Lbox.nd rfl (Or.inl rfl) (pe_op op_add (pe_op op_mul pe_int (pv 1)) pe_int))
      (pss_cons (ps_if (pt_cmpR op_lt (pv 1) (pe_callB call_len_seq (by rfl) T.n_len PySem.boot_len (pa_cons (pv 0) pa_nil)) (nomark _))
        (pss_one (ps_set (i := 2) sc_Lbox.nd rfl (Or.inl rfl) (pe_ix ix_list (pv 0) (pv 1) (fun _ _ => rfl))))
        (pss_one (ps_if (pt_cmpR op_gt (pe_callB call_len_seq (by rfl) T.n_len PySem.boot_len (pa_cons (pv 0) pa_nil)) pe_int (nomark _))
          (pss_one (ps_set (i := 2) sc_Lbox.nd rfl (Or.inl rfl) (pe_op op_add (pv 2) (pe_op op_mul (pe_op op_mod (pe_ix ix_list (pv 0) (pe_op op_mod (pv 1) (pe_callB call_len_seq (by rfl) T.n_len PySem.boot_len (pa_cons (pv 0) pa_nil))) (fun _ _ => rfl)) pe_int) pe_int))))
          pss_nil)))
      (pss_cons (ps_set (i := 3) sc_Lbox.nd rfl (Or.inl rfl) (pe_op op_add (pe_op op_mod (pe_op op_add (pe_op op_mul (pe_op op_mod (pv 2) pe_int) pe_int) (pe_op op_mul pe_int (pv 1))) pe_int) pe_int))
      (pss_one (ps_ret (pe_lst (pa_cons (pe_ix ix_list (pe_lst (pa_cons pe_int (pa_cons (pv 2) pa_nil))) (pe_callTy call_int1 (by rfl) T.n_int (by decide +kernel) (pa_cons (pe_cmpR op_ge (pv 2) (pe_op op_pow pe_int pe_int) (nomark _)) pa_nil)) (fun _ _ => rfl)) (pa_cons (pv 3) (pa_cons pe_int pa_nil))))))))), ?_⟩
    have fin : ∀ c : Int, tSeq (tAsg (tOp (rI0 fun i j => V.int (i + j)) (tOp (rI (fun _ j => 0 < j) fun i j => .int (i % j)) (tOp (rI0 fun i j => .int (i + j)) (tOp (rI CMul fun i j => .int (i * j)) (tOp (rI (fun _ j => 0 < j) fun i j => .int (i % j)) (tVar 2) (tC (.int 2147483629))) (tC (.int 48271))) (tOp (rI CMul fun i j => .int (i * j)) (tC (.int 40692)) (tVar 1))) (tC (.int 2147483629))) (tC (.int 1))) (gName 3))
        (tRet (tLst (tCons (tOp (rIxL K) (tLst (tCons (tC (.int 0)) (tCons (tVar 2) tNil))) (tCB (fun xs H Q => (∃ i, xs = [.int i] ∧ Q (.int i) H) ∨ ∃ k, xs = [.bl k] ∧ Q (.int (if k then 1 else 0)) H) (tCons (tOp (rI0 fun i j => .bl (decide (j ≤ i))) (tVar 2) (tOp (rI CPow fun i j => .int (i ^ j.toNat)) (tC (.int 10)) (tC (.int 18)))) tNil))) (tCons (tVar 3) (tCons (tC (.int 0)) tNil)))))
        { nx := fun _ H' => Q .non H', rt := Q } [some (.ref a), some (.int k), some (.int c), none] H := by
      intro c
      refine ⟨_, rfl, _, _, rfl, rfl, (by show (0 : Int) < 2147483629; decide), _, _, rfl, rfl, .inr (by decide), _, rfl, _, _, rfl, rfl, .inl (by decide), _, _, rfl, rfl, _, _, rfl, rfl, (by show (0 : Int) < 2147483629; decide), _, _, rfl, rfl, ?_⟩
      refine ⟨_, rfl, lz 2, fun d hd => ⟨_, rfl, _, _, rfl, rfl, ⟨by decide, by decide, by decide⟩, _, _, rfl, rfl, ?_⟩⟩
      refine .inr ⟨_, rfl, ?_⟩
      by_cases hc : (10 : Int) ^ (18 : Int).toNat ≤ c
      · rw [decide_eq_true hc]
        refine ⟨d, _, _, _, rfl, rfl, .inl (.inl upd_same), rfl, _, rfl, lz 3, fun p hp => ?_⟩
        refine q p _ ?_ ?_ ⟨_, _, _, upd_same⟩
        · exact (same_new hd).trans (same_new hp)
        · exact Same.free (same_new hd) hp
      · rw [decide_eq_false hc]
        refine ⟨d, _, _, _, rfl, rfl, .inl (.inl upd_same), rfl, _, rfl, lz 3, fun p hp => ?_⟩
        refine q p _ ?_ ?_ ⟨_, _, _, upd_same⟩
        · exact (same_new hd).trans (same_new hp)
        · exact Same.free (same_new hd) hp
    refine ⟨_, rfl, _, _, rfl, rfl, .inl (by decide), _, _, rfl, rfl, ?_⟩
    refine ⟨_, rfl, _, rfl, a, _, rfl, .inl hS, _, _, rfl, rfl, _, rfl, ite2 (fun h1 => ?_) (fun h1 => ?_)⟩
    · have h2 : k < (ns.map V.int).length := by
        have := of_decide_eq_true h1
        omega
      have h3 : k < ns.length := by rwa [List.length_map] at h2
      refine ⟨_, rfl, _, rfl, a, _, _, _, rfl, rfl, hS, atI_nat (j := k) (v := .int ns[k]) (by rw [List.getElem?_map, List.getElem?_eq_getElem h3]; rfl), ?_⟩
      exact fin _
    · refine ⟨_, rfl, a, _, rfl, .inl hS, _, _, rfl, rfl, _, rfl, ite2 (fun h4 => ?_) (fun h4 => ?_)⟩
      · have h5 : 0 < (ns.map V.int).length := by
          have := of_decide_eq_true h4
          omega
        have h6 : k % ns.length < ns.length := Nat.mod_lt _ (by rwa [List.length_map] at h5)
        refine ⟨_, rfl, _, rfl, _, rfl, _, rfl, a, _, rfl, .inl hS, _, _, rfl, rfl, (by show (0 : Int) < _; omega), a, _, _, .int ns[k % ns.length], rfl, rfl, hS, ?_, ?_⟩
        · have e : ((k : Int) % ((ns.map V.int).length : Nat)) = ((k % ns.length : Nat) : Int) := by
            rw [List.length_map]
            omega
          rw [e]
          exact atI_nat (by rw [List.getElem?_map, List.getElem?_eq_getElem h6]; rfl)
        · refine ⟨_, _, rfl, rfl, (by show (0 : Int) < 2147483629; decide), _, _, rfl, rfl, .inr (by decide), _, _, rfl, rfl, ?_⟩
          exact fin _
      · exact fin _
end K27

set_option maxHeartbeats 4000000
namespace K27
open PySem PySem.Spec PyProof.Rows L2
variable {P : Program} {w : World} {K : PySem.W.Frag} {mg : Str → Option Value} {base : Heap}
theorem Td.up {H : Hp} {p : Addr} {o : HO} {v : V} {d : PyData} (n : H p = none) (h : Td K H v d) : Td K (upd H p o) v d := Td.mono (TupK.new n) h
theorem Tds.up {H : Hp} {p : Addr} {o : HO} {v : List V} {d : List PyData} (n : H p = none) (h : Tds K H v d) : Tds K (upd H p o) v d := Tds.mono (TupK.new n) h
theorem Tds.snoc {H : Hp} {vs : List V} {ds : List PyData} {v : V} {d : PyData} (h : Tds K H vs ds) (h2 : Td K H v d) : Tds K H (vs ++ [v]) (ds ++ [d]) := h.append (Tds.one h2)
theorem take_succ' {α : Type} {l : List α} {i : Nat} {x : α} (h : l[i]? = some x) : l.take (i + 1) = l.take i ++ [x] := by
  rw [List.take_add_one, h]
  rfl
/-! ### ground -/
def rowD (q : Str × List Item) : PyData := .tuple [.str q.1, .tuple (q.2.map Item.data)]
def signRows : List (Str × List Item) := [("+", [oneI, oneI]), ("-", [oneI, oneI]), ("*", [oneI, oneI]), ("/", [oneI, oneI]), ("<", [oneI, oneI]), ("=", [oneI, oneI])]
theorem signRows_at {i : Nat} {c : Nat} (h : ("+-*/<=" : Str).cps[i]? = some c) : signRows[i]? = some (⟨#[c]⟩, [oneI, oneI]) := by
  have e : (("+-*/<=" : Str).cps.toList.map fun c => ((⟨#[c]⟩ : Str), [oneI, oneI])) = signRows := by rfl
  rw [← e, List.getElem?_map]
  have h' : ("+-*/<=" : Str).cps.toList[i]? = some c := by simpa using h
  rw [h']
  rfl
def spGround (K : PySem.W.Frag) : Sp := fun vs H Q _ => vs = [] ∧ ∀ v H', Same H H' → Td K H' v groundT.data → Q v H'
abbrev N_Lground : List Str := ["_law_one", "_law_opened", "_law_name", "_law_rows", "_law_some", "_law_sign", "_law_head", "_law_items_here"]
theorem sc_Lground : FnScope N_Lground [] (defScope s_Lground) := ⟨rfl, rfl, rfl, by decide +kernel, rfl, by decide +kernel, by decide +kernel⟩
theorem ok_Lground (T : TX K mg) : Ok P w K mg base CX0 1 "_law_ground" [] (spGround K) := by
  refine Ok.mk' T T.m_Lground T.f_Lground sc_Lground (fun vs H Q E h => ?_) (fun _ _ _ _ _ _ us hl => match us, hl with | [], _ => rfl) (fun cdv A outer s H vs Q E hr h => ?_)
  · obtain ⟨rfl, _⟩ := h
    rfl
  · obtain ⟨rfl, q⟩ := h
    refine ⟨_, (pss_cons (ps_asg (pe_tup (pa_cons (pe_tup (pa_cons pe_str (pa_cons pe_str (pa_cons (pe_tup pa_nil) pa_nil)))) (pa_cons (pe_tup (pa_cons pe_str (pa_cons pe_str (pa_cons (pe_tup (pa_cons pe_int pa_nil)) pa_nil)))) (pa_cons (pe_tup (pa_cons pe_str (pa_cons pe_str pa_nil))) pa_nil)))) (pg_tup rfl (pgs_cons (pg_name (i := 0) sc_Lground.nd rfl (.inr rfl)) (pgs_cons (pg_name (i := 1) sc_Lground.nd rfl (.inl rfl)) (pgs_cons (pg_name (i := 2) sc_Lground.nd rfl (.inl rfl)) pgs_nil)))))
      (pss_cons (ps_set (i := 3) sc_Lground.nd rfl (Or.inl rfl) (pe_op op_cat (pe_lst (pa_cons (pe_tup (pa_cons pe_str (pa_cons (pe_tup (pa_cons (pe_tup (pa_cons pe_str pa_nil)) pa_nil)) pa_nil))) pa_nil)) (pe_lc (own := [("_law_sign", 5)]) (g := gName 5) (tt := tYes) (by rfl) sc_Lground.nd (pi_str pe_str) (blkOk_by (own := [("_law_sign", 5)]) (N := N_Lground) (sc := defScope s_Lground) (by decide +kernel)) (fun _ _ _ _ _ => (pg_name (i := 5) sc_Lground.nd rfl (Or.inl rfl))) (fun _ _ _ _ _ => pts_nil) (fun _ _ _ _ _ => (pe_tup (pa_cons (pv 5) (pa_cons (pe_tup (pa_cons (pv 0) (pa_cons (pv 0) pa_nil))) pa_nil)))))))
      (pss_cons (ps_set (i := 3) sc_Lground.nd rfl (Or.inl rfl) (pe_op op_cat (pv 3) (pe_lst (pa_cons (pe_tup (pa_cons pe_str (pa_cons (pe_tup (pa_cons (pv 0) (pa_cons (pv 0) (pa_cons (pv 0) pa_nil)))) pa_nil))) (pa_cons (pe_tup (pa_cons pe_str (pa_cons (pe_tup (pa_cons (pv 0) (pa_cons (pv 0) pa_nil))) pa_nil))) (pa_cons (pe_tup (pa_cons pe_str (pa_cons (pe_tup (pa_cons (pv 2) (pa_cons (pv 0) (pa_cons (pv 1) pa_nil)))) pa_nil))) pa_nil))))))
      (pss_cons (ps_expr (pe_bm PySem.F.plainAttrs_list PySem.F.slot_list_append PySem.F.type_list_append mt_append (pv 3) (pa_cons (pe_tup (pa_cons pe_str (pa_cons (pe_tup (pa_cons (pv 0) (pa_cons (pv 2) (pa_cons (pv 0) (pa_cons (pv 1) pa_nil))))) pa_nil))) pa_nil)))
      (pss_cons (ps_set (i := 4) sc_Lground.nd rfl (Or.inl rfl) (pe_callTy call_tuple_of (by rfl) T.n_tuple (by decide +kernel) (pa_cons (pe_lc (own := [("_law_head", 6), ("_law_items_here", 7)]) (g := gTup K 2 (gCons (gName 6) (gCons (gName 7) gNil))) (tt := tYes) (by rfl) sc_Lground.nd (pi_list (pv 3)) (blkOk_by (own := [("_law_head", 6), ("_law_items_here", 7)]) (N := N_Lground) (sc := defScope s_Lground) (by decide +kernel)) (fun _ _ _ _ _ => (pg_tup rfl (pgs_cons (pg_name (i := 6) sc_Lground.nd rfl (Or.inl rfl)) (pgs_cons (pg_name (i := 7) sc_Lground.nd rfl (Or.inl rfl)) pgs_nil)))) (fun _ _ _ _ _ => pts_nil) (fun _ _ _ _ _ => (pe_tup (pa_cons (pv 6) (pa_cons (pv 7) (pa_cons pe_str (pa_cons pe_non pa_nil))))))) pa_nil)))
      (pss_one (ps_ret (pe_tup (pa_cons pe_str (pa_cons pe_str (pa_cons pe_str (pa_cons (pe_tup (pa_cons (pe_tup (pa_cons pe_str (pa_cons pe_str pa_nil))) pa_nil)) (pa_cons (pe_tup (pa_cons pe_str (pa_cons pe_str pa_nil))) (pa_cons (pe_tup pa_nil) (pa_cons (pv 4) pa_nil))))))))))))))), ?_⟩
    -- the three items
    refine ⟨lz 0, fun p0 h0 => ?_⟩
    generalize hE : upd _ p0 _ = H0
    obtain ⟨s0, e0⟩ := mk hE h0
    refine ⟨lz 3, fun p1 h1 => ?_⟩
    generalize hE : upd _ p1 _ = H1
    obtain ⟨s1, e1⟩ := mk hE h1
    have d1 : Td K H1 (.ref p1) oneI.data := .at e1 (.cons (.str _) (.cons (.str _) (.cons (.at (s1 _ _ e0) .nil) .nil)))
    refine ⟨lz 1, fun p2 h2 => ?_⟩
    generalize hE : upd _ p2 _ = H2
    obtain ⟨s2, e2⟩ := mk hE h2
    refine ⟨lz 3, fun p3 h3 => ?_⟩
    generalize hE : upd _ p3 _ = H3
    obtain ⟨s3, e3⟩ := mk hE h3
    have d3 : Td K H3 (.ref p3) openI.data := .at e3 (.cons (.str _) (.cons (.str _) (.cons (.at (s3 _ _ e2) (.cons (.int _) .nil)) .nil)))
    refine ⟨lz 2, fun p4 h4 => ?_⟩
    generalize hE : upd _ p4 _ = H4
    obtain ⟨s4, e4⟩ := mk hE h4
    have d4 : Td K H4 (.ref p4) nameI.data := .at e4 (.cons (.str _) (.cons (.str _) .nil))
    refine ⟨lz 3, fun p5 h5 => ?_⟩
    generalize hE : upd _ p5 _ = H5
    obtain ⟨s5, e5⟩ := mk hE h5
    have t5 : Tds K H5 [.ref p1, .ref p3, .ref p4] [oneI.data, openI.data, nameI.data] := .cons (d1.mono (tk (s2.trans (s3.trans (s4.trans s5))))) (.cons (d3.mono (tk (s4.trans s5))) (.cons (d4.mono (tk s5)) .nil))
    have sm : Same H H5 := s0.trans (s1.trans (s2.trans (s3.trans (s4.trans s5))))
    refine ⟨p5, _, rfl, .inl (.inl e5), rfl, _, _, rfl, _, _, rfl, _, _, rfl, rfl, ?_⟩
    clear s0 s1 s2 s3 s4 s5 d1 d3 d4 e0 e1 e2 e3 e4 e5 hE h0 h1 h2 h3 h4 h5
    -- the rows
    refine ⟨lz 1, fun p6 h6 => ?_⟩
    generalize hE : upd _ p6 _ = H6
    obtain ⟨s6, e6⟩ := mk hE h6
    refine ⟨lz 1, fun p7 h7 => ?_⟩
    generalize hE : upd _ p7 _ = H7
    obtain ⟨s7, e7⟩ := mk hE h7
    refine ⟨lz 2, fun p8 h8 => ?_⟩
    generalize hE : upd _ p8 _ = H8
    obtain ⟨s8, e8⟩ := mk hE h8
    refine ⟨lz 1, fun p9 h9 => ?_⟩
    generalize hE : upd _ p9 _ = H9
    obtain ⟨s9, e9⟩ := mk hE h9
    have d8 : Td K H9 (.ref p8) (rowD ("NUM", [.lit])) := .at (s9 _ _ e8) (.cons (.str _) (.cons (.at ((s8.trans s9) _ _ e7) (.cons (.at ((s7.trans (s8.trans s9)) _ _ e6) (.cons (.str _) .nil)) .nil)) .nil))
    replace sm := sm.trans (s6.trans (s7.trans (s8.trans s9)))
    replace t5 := t5.mono (tk (s6.trans (s7.trans (s8.trans s9))))
    clear s6 s7 s8 s9 e6 e7 e8 h6 h7 h8 h9 hE
    refine ⟨_, rfl, fun D nD => lc_it walk_str (fun i H' => Same H9 H' ∧ ∃ acc, H' D = some (.lst acc) ∧ Tds K H' acc ((signRows.take i).map rowD)) ⟨same_new nD, [], upd_same, .nil⟩ (fun _ _ _ _ => trivial) (fun i x Ha Hb hi hP hY => ?_) (fun Ha hP => ?_)⟩
    · obtain ⟨sa, acc, ea, ta⟩ := hP
      obtain ⟨rfl, c, hc, rfl⟩ := hY
      refine ⟨rfl, _, rfl, _, rfl, _, rfl, lz 2, fun p10 h10 => ?_⟩
      generalize hE : upd _ p10 _ = H10
      obtain ⟨s10, e10⟩ := mk hE h10
      refine ⟨lz 2, fun p11 h11 => ?_⟩
      generalize hE : upd _ p11 _ = H11
      obtain ⟨s11, e11⟩ := mk hE h11
      have d1 := (t5.mono (tk (sa.trans (s10.trans s11)))).hd
      have d11 : Td K H11 (.ref p11) (rowD (⟨#[c]⟩, [oneI, oneI])) := .at e11 (.cons (.str _) (.cons (.at (s11 _ _ e10) (.cons d1 (.cons d1 .nil))) .nil))
      have eD := (s10.trans s11) _ _ ea
      refine ⟨acc, eD, ?_, smut (sa.trans (s10.trans s11)) nD, _, upd_same, ?_⟩
      · rw [ta.len, List.length_map, List.length_take]
        exact lzl (by show min i 6 < 100000; omega)
      · rw [take_succ' (signRows_at hc), List.map_append]
        exact Tds.mono (TupK.put (TupK.refl _) eD rfl) ((ta.mono (tk (s10.trans s11))).snoc d11)
    obtain ⟨sa, acc, ea, ta⟩ := hP
    replace ta : Tds K Ha acc (signRows.map rowD) := ta
    replace t5 := t5.mono (tk sa)
    replace d8 := d8.mono (tk sa)
    replace sm := sm.trans sa
    have e9' := sa _ _ e9
    clear sa e9 nD
    have hacc : acc.length = 6 := ta.len
    refine ⟨p9, D, _, _, rfl, rfl, e9', ea, by rw [hacc]; exact lz 7, fun p12 h12 => ?_⟩
    generalize hE : upd _ p12 _ = H12
    obtain ⟨s12, e12⟩ := mk hE h12
    have t12 : Tds K H12 ([.ref p8] ++ acc) (rowD ("NUM", [.lit]) :: signRows.map rowD) := ((Tds.one d8).append ta).mono (tk s12)
    replace t5 := t5.mono (tk s12)
    replace sm := sm.trans s12
    clear s12 h12 e9' ea ta d8 hE
    -- three more
    refine ⟨_, rfl, _, rfl, _, rfl, _, rfl, lz 3, fun p13 h13 => ?_⟩
    generalize hE : upd _ p13 _ = H13
    obtain ⟨s13, e13⟩ := mk hE h13
    refine ⟨lz 2, fun p14 h14 => ?_⟩
    generalize hE : upd _ p14 _ = H14
    obtain ⟨s14, e14⟩ := mk hE h14
    refine ⟨_, rfl, _, rfl, lz 2, fun p15 h15 => ?_⟩
    generalize hE : upd _ p15 _ = H15
    obtain ⟨s15, e15⟩ := mk hE h15
    refine ⟨lz 2, fun p16 h16 => ?_⟩
    generalize hE : upd _ p16 _ = H16
    obtain ⟨s16, e16⟩ := mk hE h16
    refine ⟨_, rfl, _, rfl, _, rfl, lz 3, fun p17 h17 => ?_⟩
    generalize hE : upd _ p17 _ = H17
    obtain ⟨s17, e17⟩ := mk hE h17
    refine ⟨lz 2, fun p18 h18 => ?_⟩
    generalize hE : upd _ p18 _ = H18
    obtain ⟨s18, e18⟩ := mk hE h18
    refine ⟨lz 3, fun p19 h19 => ?_⟩
    generalize hE : upd _ p19 _ = H19
    obtain ⟨s19, e19⟩ := mk hE h19
    have s18' := s18.trans s19
    have s17' := s17.trans s18'
    have s16' := s16.trans s17'
    have s15' := s15.trans s16'
    have s14' := s14.trans s15'
    have s13' := s13.trans s14'
    replace t5 := t5.mono (tk s13')
    have d1 := t5.hd
    have d3 := t5.tl.hd
    have d4 := t5.tl.tl.hd
    have t19 : Tds K H19 [.ref p14, .ref p16, .ref p18] [rowD ("IF", [oneI, oneI, oneI]), rowD ("NEED", [oneI, oneI]), rowD ("LET", [nameI, oneI, openI])] :=
      .cons (.at (s15' _ _ e14) (.cons (.str _) (.cons (.at (s14' _ _ e13) (.cons d1 (.cons d1 (.cons d1 .nil)))) .nil)))
      (.cons (.at (s17' _ _ e16) (.cons (.str _) (.cons (.at (s16' _ _ e15) (.cons d1 (.cons d1 .nil))) .nil)))
      (.cons (.at (s19 _ _ e18) (.cons (.str _) (.cons (.at (s18' _ _ e17) (.cons d4 (.cons d1 (.cons d3 .nil)))) .nil))) .nil))
    have t12' := t12.mono (tk s13')
    refine ⟨p12, p19, _, _, rfl, rfl, s13' _ _ e12, e19, by rw [List.length_append, hacc]; exact lz 10, fun p20 h20 => ?_⟩
    generalize hE : upd _ p20 _ = H20
    obtain ⟨s20, e20⟩ := mk hE h20
    have t20 := (t12'.append t19).mono (tk s20)
    replace d1 := d1.mono (tk s20)
    replace d3 := d3.mono (tk s20)
    replace d4 := d4.mono (tk s20)
    have n20 : H p20 = none := Same.free (sm.trans s13') h20
    replace sm := sm.trans (s13'.trans s20)
    clear t12 t12' t19 s13 s14 s15 s16 s17 s18 s19 s13' s14' s15' s16' s17' s18' e12 e13 e14 e15 e16 e17 e18 e19 h13 h14 h15 h16 h17 h18 h19 hE s20
    -- the last row
    refine ⟨_, rfl, .inl ⟨rfl, _, .inl (.inl e20)⟩, _, rfl, _, rfl, _, rfl, _, rfl, lz 4, fun p21 h21 => ?_⟩
    generalize hE : upd _ p21 _ = H21
    obtain ⟨s21, e21⟩ := mk hE h21
    refine ⟨lz 2, fun p22 h22 => ?_⟩
    generalize hE : upd _ p22 _ = H22
    obtain ⟨s22, e22⟩ := mk hE h22
    have s21' := s21.trans s22
    have e20' := s21' _ _ e20
    refine ⟨p20, _, _, rfl, rfl, e20', by rw [List.length_append, List.length_append, hacc]; exact lzl (by show 1 + 6 + 3 < 100000; decide), ?_⟩
    have d22 : Td K H22 (.ref p22) (rowD ("LOOP", [oneI, nameI, oneI, openI])) := .at e22 (.cons (.str _) (.cons (.at (s22 _ _ e21) (.cons (d1.mono (tk s21')) (.cons (d4.mono (tk s21')) (.cons (d1.mono (tk s21')) (.cons (d3.mono (tk s21')) .nil))))) .nil))
    have t22 := (t20.mono (tk s21')).snoc d22
    generalize hL : ([V.ref p8] ++ acc ++ [V.ref p14, V.ref p16, V.ref p18] ++ [V.ref p22]) = rows at t22 ⊢
    have hrows : rows.length = 11 := by rw [← hL, List.length_append, List.length_append, List.length_append, hacc]; rfl
    generalize hE : upd _ p20 _ = H23
    have e23 : H23 p20 = some (.lst rows) := by rw [← hE]; exact upd_same
    have k23 : TupK H22 H23 := by
      rw [← hE]
      exact TupK.put (TupK.refl _) e20' rfl
    have s23 : Same H H23 := by
      rw [← hE]
      exact smut (sm.trans s21') n20
    replace t22 : Tds K H23 rows (groundRows.map rowD) := t22.mono k23
    clear hL hE sm s21 s22 s21' e20' d1 d3 d4 d22 e21 e22 t20 k23 h21 h22 e20 hacc
    refine ⟨_, rfl, p20, rfl, ⟨_, .inl (.inl e23)⟩, fun D nD => lc_it (walk_list (xs := rows)) (fun i H' => Same H23 H' ∧ ∃ acc, H' D = some (.lst acc) ∧ Tds K H' acc ((groundT.forms.take i).map formD)) ⟨same_new nD, [], upd_same, .nil⟩ (fun i H' _ hP => Same.seq hP.1 (.inl (.inl e23))) (fun i x Ha Hb hi hP hY => ?_) (fun Ha hP => ?_)⟩
    · obtain ⟨sa, acc, ea, ta⟩ := hP
      obtain ⟨rfl, hx⟩ := hY
      obtain ⟨d, hd, dx⟩ := (t22.mono (tk sa)).getV hx
      rw [List.getElem?_map, Option.map_eq_some_iff] at hd
      obtain ⟨q0, hq, rfl⟩ := hd
      obtain ⟨a, v1, v2, rfl, hT, h1, h2⟩ := dx.i2
      obtain rfl := h1.strI
      refine ⟨a, _, rfl, hT.sq, rfl, _, _, rfl, _, _, rfl, rfl, rfl, _, rfl, _, rfl, lz 4, fun p24 h24 => ?_⟩
      generalize hE : upd _ p24 _ = H24
      obtain ⟨s24, e24⟩ := mk hE h24
      have eD := s24 _ _ ea
      refine ⟨acc, eD, ?_, smut (sa.trans s24) nD, _, upd_same, ?_⟩
      · rw [ta.len, List.length_map, List.length_take]
        exact lzl (by show min i 11 < 100000; omega)
      · have hf : groundT.forms[i]? = some (⟨q0.1, q0.2, "num"⟩, .none) := by
          have e : groundT.forms = groundRows.map fun q => ((⟨q.1, q.2, "num"⟩ : Form), PyData.none) := rfl
          rw [e, List.getElem?_map, hq]
          rfl
        rw [take_succ' hf, List.map_append]
        exact Tds.mono (TupK.put (TupK.refl _) eD rfl) ((ta.mono (tk s24)).snoc (.at e24 (.cons (.str _) (.cons (h2.mono (tk s24)) (.cons (.str _) (.cons .non .nil))))))
    obtain ⟨sa, acc, ea, ta⟩ := hP
    rw [List.take_of_length_le (by rw [hrows]; exact Nat.le_refl 11)] at ta
    refine ⟨D, _, rfl, .inl ⟨.inl (.inl ea), fun p25 h25 => ?_⟩⟩
    generalize hE : upd _ p25 _ = H25
    obtain ⟨s25, e25⟩ := mk hE h25
    refine ⟨lz 2, fun p26 h26 => ?_⟩
    generalize hE : upd _ p26 _ = H26
    obtain ⟨s26, e26⟩ := mk hE h26
    refine ⟨lz 1, fun p27 h27 => ?_⟩
    generalize hE : upd _ p27 _ = H27
    obtain ⟨s27, e27⟩ := mk hE h27
    refine ⟨lz 2, fun p28 h28 => ?_⟩
    generalize hE : upd _ p28 _ = H28
    obtain ⟨s28, e28⟩ := mk hE h28
    refine ⟨lz 0, fun p29 h29 => ?_⟩
    generalize hE : upd _ p29 _ = H29
    obtain ⟨s29, e29⟩ := mk hE h29
    refine ⟨_, rfl, lz 7, fun p30 h30 => ?_⟩
    generalize hE : upd _ p30 _ = H30
    obtain ⟨s30, e30⟩ := mk hE h30
    have s29' := s29.trans s30
    have s28' := s28.trans s29'
    have s27' := s27.trans s28'
    have s26' := s26.trans s27'
    have s25' := s25.trans s26'
    refine q _ _ (s23.trans (sa.trans s25')) (.at e30 (.cons (.str _) (.cons (.str _) (.cons (.str _) (.cons (.at (s28' _ _ e27) (.cons (.at (s27' _ _ e26) (.cons (.str _) (.cons (.str _) .nil))) .nil)) (.cons (.at (s29' _ _ e28) (.cons (.str _) (.cons (.str _) .nil))) (.cons (.at (s30 _ _ e29) .nil) (.cons (.at (s26' _ _ e25) (ta.mono (tk s25'))) .nil))))))))
end K27

set_option maxHeartbeats 4000000
namespace K27
open PySem PySem.Spec PyProof.Rows L2
theorem ifT {c : Bool} {A B : Prop} (hc : c = true) (h : A) : if c = true then A else B := by
  rw [if_pos hc]
  exact h
theorem ifF {c : Bool} {A B : Prop} (hc : c = false) (h : B) : if c = true then A else B := by
  rw [if_neg (by rw [hc]; exact Bool.false_ne_true)]
  exact h
/-! ### rules with the written part told -/
section
variable {X : Cx} {K : PySem.W.Frag}
theorem ix_tupK (h : X.K = K := by rfl) : IxR X (rIxT K) := by subst h; exact ix_tup
theorem ix_listK (h : X.K = K := by rfl) : IxR X (rIxL K) := by subst h; exact ix_list
theorem call_isiK' (h : X.K = K := by rfl) : CallR X (.builtin "isinstance") (rIsi K) := by subst h; exact call_isi
theorem op_notIn_seqK (h : X.K = K := by rfl) : OpR X (compareOp .NotIn) (rIn K true) := by subst h; exact op_notIn_seq
theorem op_in_seqK (h : X.K = K := by rfl) : OpR X (compareOp .In) (rIn K false) := by subst h; exact op_in_seq
end
/-! ### a name's list or tuple, walked -/
section
variable {X : Cx} {x : Str} {pos : Pos} {tg : Expr}
def SqB (K : PySem.W.Frag) (l : Bool) (H : Hp) (a : Addr) (xs : List V) : Prop := if l = true then SqL K H a xs else SqT K H a xs
theorem SqB.stay {K : PySem.W.Frag} {l : Bool} {H H' : Hp} {a : Addr} {xs : List V} (h : SqB K l H a xs) (k : ∀ o, H a = some o → H' a = some o) : SqB K l H' a xs := by
  have rd : ∀ u, Rd H a u → Rd H' a u := fun u h => by
    rcases h with h | ⟨o, h⟩
    · exact .inl (k _ h)
    · exact .inr ⟨o, k _ h⟩
  cases l with
  | true =>
    rcases (show SqL K H a xs from h) with h | h
    · exact (show SqL K H' a xs from .inl (rd _ h))
    · exact (show SqL K H' a xs from .inr h)
  | false =>
    rcases (show SqT K H a xs from h) with h | h
    · exact (show SqT K H' a xs from .inl (rd _ h))
    · exact (show SqT K H' a xs from .inr h)
theorem SqB.same {K : PySem.W.Frag} {l : Bool} {H H' : Hp} {a : Addr} {xs : List V} (h : SqB K l H a xs) (k : Same H H') : SqB K l H' a xs := h.stay fun o e => k _ _ e
def iSqV (K : PySem.W.Frag) (i : Nat) : TI := fun σ H R => ∃ a xs l, σ[i]? = some (some (.ref a)) ∧ SqB K l H a xs ∧ ∀ J, Walk J xs.length (fun H' => SqB K l H' a xs) (YAt xs) → R J H
theorem pi_sq (i : Nat) (hN : X.N[i]? = some x := by rfl) (hv : Vis X.env.scope x := by first | exact Or.inl rfl | exact Or.inr (Or.inl rfl) | exact Or.inr (Or.inr rfl)) (hd : (x == ("__debug__" : Str)) = false := by decide)
    (hcd : (x == ("__classdict__" : Str)) = false := by decide) : PI X tg (.Name x pos) (iSqV X.K i) := by
  refine ⟨fun pins s σ H R I h => ?_⟩
  obtain ⟨a, xs, l, e, hq, k⟩ := h
  cases l with
  | true => exact (pi_list (pv i hN hv hd hcd)).run pins s σ H R I ⟨_, e, a, rfl, ⟨_, hq⟩, k _ walk_list⟩
  | false => exact (pi_tup (pv i hN hv hd hcd)).run pins s σ H R I ⟨_, e, a, rfl, ⟨_, hq⟩, k _ walk_tup⟩
end
variable {P : Program} {w : World} {K : PySem.W.Frag} {mg : Str → Option Value} {base : Heap}
theorem sqt_mono {H H' : Hp} {a : Addr} {xs : List V} (h : SqT K H a xs) (k : TupK H H') : SqT K H' a xs := by
  rcases h with (h | ⟨o, h⟩) | h
  · exact .inl (.inl (k _ _ rfl h))
  · exact .inl (.inr ⟨o, k _ _ rfl h⟩)
  · exact .inr h
/-- a list or a tuple of data -/
def SeqTd (K : PySem.W.Frag) (H : Hp) (v : V) (ds : List PyData) : Prop := ∃ a xs, v = .ref a ∧ (H a = some (.lst xs) ∨ Tu K H a xs) ∧ Tds K H xs ds
theorem SeqTd.sq {H : Hp} {v : V} {ds : List PyData} (h : SeqTd K H v ds) : ∃ a xs l, v = .ref a ∧ SqB K l H a xs ∧ Tds K H xs ds := by
  obtain ⟨a, xs, e, h | h, t⟩ := h
  · exact ⟨a, xs, true, e, .inl (.inl h), t⟩
  · exact ⟨a, xs, false, e, h.sq, t⟩
theorem SeqTd.same {H H' : Hp} {v : V} {ds : List PyData} (h : SeqTd K H v ds) (s : Same H H') : SeqTd K H' v ds := by
  obtain ⟨a, xs, e, h, t⟩ := h
  refine ⟨a, xs, e, ?_, t.mono (tk s)⟩
  rcases h with h | h
  · exact .inl (s _ _ h)
  · exact .inr (h.mono (tk s))
theorem SeqTd.of {H : Hp} {v : V} {ds : List PyData} (h : Td K H v (.tuple ds)) : SeqTd K H v ds := by
  obtain ⟨a, xs, e, h, t⟩ := h.inv
  exact ⟨a, xs, e, .inr h, t⟩
def It.tag : It → Str
  | .tong _ => "tongue"
  | .part _ => "part"
def It.d3 : It → PyData
  | .tong t => .tuple (t.kinds.map pairD)
  | .part p => .tuple (p.rows.map Row.data)
theorem It.fields {H : Hp} {v : V} {it : It} (h : Td K H v it.data) : ∃ a xs v3, v = .ref a ∧ SqT K H a xs ∧ xs[0]? = some (.str it.tag) ∧ xs[1]? = some (.str it.name) ∧ xs[2]? = some (.str it.third) ∧ xs[3]? = some v3 ∧ Td K H v3 it.d3 := by
  cases it with
  | tong t =>
    obtain ⟨a, v1, v2, v3, v4, v5, v6, v7, rfl, h, h1, h2, h3, h4, h5, h6, h7⟩ := Td.i7 h
    obtain rfl := h1.strI
    obtain rfl := h2.strI
    obtain rfl := h3.strI
    exact ⟨a, _, v4, rfl, h.sq, rfl, rfl, rfl, rfl, h4⟩
  | part t =>
    obtain ⟨a, v1, v2, v3, v4, rfl, h, h1, h2, h3, h4⟩ := Td.i4 h
    obtain rfl := h1.strI
    obtain rfl := h2.strI
    obtain rfl := h3.strI
    exact ⟨a, _, v4, rfl, h.sq, rfl, rfl, rfl, rfl, h4⟩
theorem map_at {α β : Type} {f : α → β} {l : List α} {i : Nat} {y : β} (h : (l.map f)[i]? = some y) : ∃ x, l[i]? = some x ∧ f x = y := by
  rw [List.getElem?_map, Option.map_eq_some_iff] at h
  exact h
theorem decV (x y : Str) : decide (V.str x = V.str y) = decide (x = y) := by
  by_cases h : x = y
  · subst h
    simp
  · rw [decide_eq_false h, decide_eq_false fun e => h (V.str.inj e)]
/-! ### the tongue of a name -/
def spTongue (K : PySem.W.Frag) : Sp := fun vs H Q _ => ∃ (v : V) (x : Str) (tw : List It), vs = [v, .str x] ∧ SeqTd K H v (tw.map It.data) ∧ tw.length ≤ 1000 ∧
  ∀ r H', Same H H' → Td K H' r (tongueOf tw x).data → Q r H'
abbrev N_Ltongue : List Str := ["_law_items_here", "_law_name", "_law_item"]
theorem sc_Ltongue : FnScope N_Ltongue ["_law_items_here", "_law_name"] (defScope s_Ltongue) := ⟨rfl, rfl, rfl, by decide +kernel, rfl, by decide +kernel, by decide +kernel⟩
theorem ok_Ltongue (T : TX K mg) : Ok P w K mg base CX0 2 "_law_tongue" ["_law_items_here", "_law_name"] (spTongue K) := by
  refine Ok.mk' T T.m_Ltongue T.f_Ltongue sc_Ltongue (fun vs H Q E h => ?_) (fun _ _ _ _ _ _ us hl => match us, hl with | [_, _], _ => rfl) (fun cdv A outer s H vs Q E hr h => ?_)
  · obtain ⟨v, x, tw, rfl, _⟩ := h
    rfl
  · obtain ⟨v, x, tw, rfl, hv, hl, q⟩ := h
    refine ⟨_, (pss_one (ps_ret (pe_ix ix_list (pe_op op_cat (pe_lc (own := [("_law_item", 2)]) (g := gName 2) (by rfl) sc_Ltongue.nd (pi_sq 0) (blkOk_by (own := [("_law_item", 2)]) (N := N_Ltongue) (sc := defScope s_Ltongue) (by decide +kernel)) (fun _ _ _ _ _ => (pg_name (i := 2) sc_Ltongue.nd rfl (Or.inl rfl))) (fun _ _ _ _ _ => pts_one (PW.pt (pw_and (pt_cmpR op_eq (pe_ix (ix_tupK (K := K)) (pv 2) pe_int (fun _ _ => rfl)) pe_str (nomark _)) (pw_and1 (pt_cmpR op_eq (pe_ix (ix_tupK (K := K)) (pv 2) pe_int (fun _ _ => rfl)) (pv 1) (nomark _)))))) (fun _ _ _ _ _ => (pv 2))) (pe_lst (pa_cons (pe_ok0 (ok_Lground T) hr (by decide) (by rfl) pass0) pa_nil))) pe_int (fun _ _ => rfl)))), ?_⟩
    obtain ⟨a, xs, l, rfl, hq, ht⟩ := hv.sq
    have hlen : xs.length = tw.length := by rw [ht.len, List.length_map]
    refine ⟨a, xs, l, rfl, hq, fun J hJ D nD => lc_it hJ (fun i H' => Same H H' ∧ ∃ acc, H' D = some (.lst acc) ∧ Tds K H' acc (((tw.take i).filter (isTong x)).map It.data)) ⟨same_new nD, [], upd_same, .nil⟩ (fun i H' _ hP => hq.same hP.1) (fun i y Ha Hb hi hP hY => ?_) (fun Ha hP => ?_)⟩
    · obtain ⟨sa, acc, ea, ta⟩ := hP
      obtain ⟨rfl, hx⟩ := hY
      obtain ⟨d, hd, dx⟩ := (ht.mono (tk sa)).getV hx
      obtain ⟨it, hit, rfl⟩ := map_at hd
      obtain ⟨b, ys, v3, rfl, hS, f0, f1, f2, f3, _⟩ := It.fields dx
      have hacc : acc.length < sizeLine := by
        rw [ta.len, List.length_map]
        have := List.length_filter_le (isTong x) (tw.take i)
        rw [List.length_take] at this
        exact lzl (by omega)
      have keep : (tw.take (i + 1)).filter (isTong x) = (tw.take i).filter (isTong x) ++ [it].filter (isTong x) := by
        rw [take_succ' hit, List.filter_append]
      refine ⟨rfl, _, rfl, b, ys, _, _, rfl, rfl, hS, at_of (j := 0) rfl f0, rfl, _, rfl, ?_⟩
      rw [decV]
      cases it with
      | part p =>
        refine ifF (show decide (("part" : Str) = "tongue") = false by decide +kernel) (iteF ⟨sa, acc, ea, ?_⟩)
        rw [keep, List.filter_cons_of_neg (by simp [isTong])]
        simpa using ta
      | tong t =>
        refine ifT (show decide (("tongue" : Str) = "tongue") = true by decide +kernel) ⟨_, rfl, b, ys, _, _, rfl, rfl, hS, at_of (j := 1) rfl f1, _, rfl, rfl, _, rfl, ?_⟩
        rw [decV]
        by_cases hn : t.name = x
        · refine ifT (decide_eq_true hn) ⟨_, rfl, acc, ea, hacc, smut sa nD, _, upd_same, ?_⟩
          rw [keep, List.filter_cons_of_pos (by simp [isTong, hn]), List.map_append]
          exact Tds.mono (TupK.put (TupK.refl _) ea rfl) (ta.snoc dx)
        · refine ifF (decide_eq_false hn) ⟨sa, acc, ea, ?_⟩
          rw [keep, List.filter_cons_of_neg (by simp [isTong, hn])]
          simpa using ta
    · obtain ⟨sa, acc, ea, ta⟩ := hP
      rw [List.take_of_length_le (by omega)] at ta
      refine ⟨rfl, fun g H2 s2 d2 => ⟨lz 1, fun p1 h1 => ?_⟩⟩
      generalize hE : upd _ p1 _ = H3
      obtain ⟨s3, e3⟩ := mk hE h1
      have s23 := s2.trans s3
      have hacc : acc.length ≤ 1000 := by
        rw [ta.len, List.length_map]
        have := List.length_filter_le (isTong x) tw
        omega
      refine ⟨D, p1, _, _, rfl, rfl, s23 _ _ ea, e3, lz _ (by show acc.length + 1 ≤ 100000; omega), fun p2 h2 => ?_⟩
      generalize hE : upd _ p2 _ = H4
      obtain ⟨s4, e4⟩ := mk hE h2
      have ta4 := (ta.mono (tk (s23.trans s4))).snoc (d2.mono (tk (s3.trans s4)))
      obtain ⟨v0, hv0, hd0⟩ : ∃ v0, (acc ++ [g])[0]? = some v0 ∧ Td K H4 v0 (tongueOf tw x).data := by
        have hh : (((tw.filter (isTong x)).map It.data) ++ [groundT.data])[0]? = some (tongueOf tw x).data := by
          unfold tongueOf
          rw [← List.head?_filter]
          cases hf : tw.filter (isTong x) with
          | nil => rfl
          | cons it r =>
            have hm : it ∈ tw.filter (isTong x) := by rw [hf]; exact List.mem_cons_self
            have := (List.mem_filter.mp hm).2
            cases it with
            | part p => cases this
            | tong t => rfl
        exact ta4.get hh
      refine ⟨p2, _, 0, v0, rfl, rfl, .inl (.inl e4), at_of (j := 0) rfl hv0, ?_⟩
      exact q _ _ (sa.trans (s23.trans s4)) hd0
end K27

set_option maxHeartbeats 4000000
namespace K27
open PySem PySem.Spec PyProof.Rows L2
variable {P : Program} {w : World} {K : PySem.W.Frag} {mg : Str → Option Value} {base : Heap}
theorem str_app_len (x y : Str) : (x ++ y).length = x.length + y.length := Array.size_append
/-! ### the heads of the parts over a tongue -/
def It.fin : It → Prop
  | .tong _ => True
  | .part p => p.name.length ≤ 1000 ∧ p.rows.length ≤ 1000 ∧ ∀ r ∈ p.rows, r.name.length ≤ 1000 ∧ r.params.length ≤ 1000
def spHeads (K : PySem.W.Frag) : Sp := fun vs H Q _ => ∃ (v : V) (x : Str) (tw : List It), vs = [v, .str x] ∧ SeqTd K H v (tw.map It.data) ∧ (∀ it ∈ tw, it.fin) ∧ (headsOf tw x).length ≤ 1000 ∧
  ∀ p H' xs, Same H H' → H p = none → H' p = some (.lst xs) → Tds K H' xs ((headsOf tw x).map headD) → Q (.ref p) H'
theorem Row.fields {H : Hp} {v : V} {r : Row} (h : Td K H v r.data) : ∃ a b o ps v4, v = .ref a ∧ Tu K H a [.str r.name, .ref b, .str r.kind, v4] ∧ H b = some (.frz o (.tup ps)) ∧ o.dict = none ∧ Tds K H ps (r.params.map pairD) ∧ Td K H v4 r.body.data := by
  obtain ⟨a, v1, v2, v3, v4, rfl, h, h1, h2, h3, h4⟩ := Td.i4 h
  obtain rfl := h1.strI
  obtain rfl := h3.strI
  obtain ⟨b, o, ps, rfl, hb, hd, t⟩ := h2.invL
  exact ⟨a, b, o, ps, v4, rfl, h, hb, hd, t, h4⟩
theorem frz_sq {H : Hp} {b : Addr} {o : Obj} {ps : List V} (h : H b = some (.frz o (.tup ps))) : SqT K H b ps := .inl (.inr ⟨o, h⟩)
abbrev N_Lheads : List Str := ["_law_items_here", "_law_name", "_law_found", "_law_item", "_law_one", "_law_kinds", "_law_x", "_law_its"]
theorem sc_Lheads : FnScope N_Lheads ["_law_items_here", "_law_name"] (defScope s_Lheads) := ⟨rfl, rfl, rfl, by decide +kernel, rfl, by decide +kernel, by decide +kernel⟩
theorem ok_Lheads (T : TX K mg) : Ok P w K mg base CX0 1 "_law_heads" ["_law_items_here", "_law_name"] (spHeads K) := by
  refine Ok.mk' T T.m_Lheads T.f_Lheads sc_Lheads (fun vs H Q E h => ?_) (fun _ _ _ _ _ _ us hl => match us, hl with | [_, _], _ => rfl) (fun cdv A outer s H vs Q E hr h => ?_)
  · obtain ⟨v, x, tw, rfl, _⟩ := h
    rfl
  · obtain ⟨v, x, tw, rfl, hv, hfin, hl, q⟩ := h
    refine ⟨_, (pss_cons (ps_set (i := 2) sc_Lheads.nd rfl (Or.inl rfl) (pe_lst pa_nil))
      (pss_cons (ps_for PassesOwn.never rfl (pi_sq 0) (pg_name (i := 3) sc_Lheads.nd rfl (.inl rfl))
        (pss_one (ps_for PassesOwn.never rfl (pi_tup (pe_ifExp (PW.pt (pw_and (pt_cmpR op_ne (pe_ix ix_tup (pv 3) pe_int (fun _ _ => rfl)) pe_str (nomark _)) (pw_and1 (pt_cmpR op_eq (pe_ix ix_tup (pv 3) pe_int (fun _ _ => rfl)) (pv 1) (nomark _))))) (pe_ix ix_tup (pv 3) pe_int (fun _ _ => rfl)) (pe_tup pa_nil))) (pg_name (i := 4) sc_Lheads.nd rfl (.inl rfl))
          (pss_cons (ps_set (i := 5) sc_Lheads.nd rfl (Or.inl rfl) (pe_ifExp (pt_cmpR op_eq (pe_ix ix_tup (pv 3) pe_int (fun _ _ => rfl)) pe_str (nomark _)) (pe_ix ix_tup (pv 4) pe_int (fun _ _ => rfl)) (pe_callTy call_tuple_of (by rfl) T.n_tuple (by decide +kernel) (pa_cons (pe_lc (own := [("_law_x", 6), ("_law_its", 7)]) (g := gTup K 2 (gCons (gName 6) (gCons (gName 7) gNil))) (tt := tYes) (by rfl) sc_Lheads.nd (pi_tup (pe_ix ix_tup (pv 4) pe_int (fun _ _ => rfl))) (blkOk_by (own := [("_law_x", 6), ("_law_its", 7)]) (N := N_Lheads) (sc := defScope s_Lheads) (by decide +kernel)) (fun _ _ _ _ _ => (pg_tup rfl (pgs_cons (pg_name (i := 6) sc_Lheads.nd rfl (Or.inl rfl)) (pgs_cons (pg_name (i := 7) sc_Lheads.nd rfl (Or.inl rfl)) pgs_nil)))) (fun _ _ _ _ _ => pts_nil) (fun _ _ _ _ _ => (pv 7))) pa_nil))))
          (pss_one (ps_expr (pe_bm PySem.F.plainAttrs_list PySem.F.slot_list_append PySem.F.type_list_append mt_append (pv 2) (pa_cons (pe_tup (pa_cons (pe_op op_add_str (pe_op op_add_str (pe_ix ix_tup (pv 3) pe_int (fun _ _ => rfl)) pe_str) (pe_ix ix_tup (pv 4) pe_int (fun _ _ => rfl))) (pa_cons (pv 5) (pa_cons (pe_ix ix_tup (pv 4) pe_int (fun _ _ => rfl)) pa_nil)))) pa_nil))))))))
      (pss_one (ps_ret (pv 2))))), ?_⟩
    obtain ⟨a, xs, l, rfl, hq, ht⟩ := hv.sq
    have hlen : xs.length = tw.length := by rw [ht.len, List.length_map]
    have hsz : ∀ i, (headsOf (tw.take i) x).length ≤ 1000 := fun i => by
      have e : headsOf tw x = headsOf (tw.take i) x ++ headsOf (tw.drop i) x := by
        unfold headsOf
        rw [← List.flatMap_append, List.take_append_drop]
      rw [e, List.length_append] at hl
      omega
    refine ⟨Nat.zero_le _, fun D nD => ?_⟩
    generalize hE : upd _ D _ = H1
    obtain ⟨s1, e1⟩ := mk hE nD
    clear hE
    refine ⟨a, xs, l, rfl, hq.same s1, fun J hJ => for_it hJ (fun i σ H' => ∃ y3 y4 y5, σ = [some (.ref a), some (.str x), some (.ref D), y3, y4, y5, none, none] ∧ Same H H' ∧ ∃ acc, H' D = some (.lst acc) ∧ Tds K H' acc ((headsOf (tw.take i) x).map headD))
      ⟨none, none, none, rfl, s1, [], e1, .nil⟩ (fun i σ H' _ hP => ?_) (fun i y σ Ha Hb hi hP hY => ?_) (fun σ Ha hP => ?_)⟩
    · obtain ⟨_, _, _, _, sm, _⟩ := hP
      exact hq.same sm
    · obtain ⟨y3, y4, y5, rfl, sa, acc, ea, ta⟩ := hP
      obtain ⟨rfl, hx⟩ := hY
      obtain ⟨d, hd, dx⟩ := (ht.mono (tk sa)).getV hx
      obtain ⟨it, hit, rfl⟩ := map_at hd
      have keep : headsOf (tw.take (i + 1)) x = headsOf (tw.take i) x ++ headsIn x it := by
        rw [take_succ' hit]
        unfold headsOf
        rw [List.flatMap_append]
        simp
      obtain ⟨b, ys, v3, rfl, hS, f0, f1, f2, f3, d3⟩ := It.fields dx
      refine ⟨_, rfl, b, ys, _, _, rfl, rfl, hS, at_of (j := 0) rfl f0, rfl, _, rfl, ?_⟩
      rw [decV]
      cases it with
      | tong t =>
        refine ifF (show (!decide (("tongue" : Str) = "tongue")) = false by decide +kernel) ⟨lz 0, fun p hp => ?_⟩
        generalize hE : upd _ p _ = H2
        obtain ⟨s2, e2⟩ := mk hE hp
        refine ⟨p, rfl, ⟨[], .inl (.inl e2)⟩, for_it (walk_tup (K := K) (a := p) (xs := [])) (fun _ σ H' => σ = [some (.ref a), some (.str x), some (.ref D), some (.ref b), y4, y5, none, none] ∧ H' = H2) ⟨rfl, rfl⟩ (fun _ σ H' _ hP => by rw [hP.2]; exact .inl (.inl e2)) (fun i _ _ _ _ hi => absurd hi (Nat.not_lt_zero _)) (fun σ H' hP => ?_)⟩
        obtain ⟨rfl, rfl⟩ := hP
        refine ⟨_, _, _, rfl, sa.trans s2, acc, s2 _ _ ea, ?_⟩
        rw [keep]
        show Tds K H' acc ((headsOf (tw.take i) x ++ []).map headD)
        rw [List.append_nil]
        exact ta.mono (tk s2)
      | part pt =>
        refine ifT (show (!decide (("part" : Str) = "tongue")) = true by decide +kernel) ⟨_, rfl, b, ys, _, _, rfl, rfl, hS, at_of (j := 2) rfl f2, _, rfl, rfl, _, rfl, ?_⟩
        rw [decV]
        by_cases hn : pt.own = x
        · have ein : headsIn x (.part pt) = pt.rows.map (rowHead pt) := by
            show (if pt.own = x then _ else _) = _
            rw [if_pos hn]
          rw [ein] at keep
          refine ifT (decide_eq_true hn) ⟨_, rfl, b, ys, _, _, rfl, rfl, hS, at_of (j := 3) rfl f3, ?_⟩
          obtain ⟨c, rs, rfl, hc, hrs⟩ := Td.inv d3
          have hf := hfin _ (List.mem_of_getElem? hit)
          refine ⟨c, rfl, ⟨rs, hc.sq⟩, for_it (walk_tup (K := K) (a := c) (xs := rs)) (fun j σ H' => ∃ y4 y5, σ = [some (.ref a), some (.str x), some (.ref D), some (.ref b), y4, y5, none, none] ∧ Same H H' ∧ TupK Hb H' ∧ ∃ acc, H' D = some (.lst acc) ∧ Tds K H' acc ((headsOf (tw.take i) x ++ (pt.rows.take j).map (rowHead pt)).map headD))
            ⟨y4, y5, rfl, sa, TupK.refl _, acc, ea, by simpa using ta⟩ (fun _ σ H' _ hP => ?_) (fun j z σ H1 H2 hj hP hY => ?_) (fun σ H' hP => ?_)⟩
          · obtain ⟨_, _, _, _, kt, _⟩ := hP
            exact (hc.mono kt).sq
          · obtain ⟨y4, y5, rfl, sb, kt, acc, ea, ta⟩ := hP
            obtain ⟨rfl, hz⟩ := hY
            obtain ⟨d, hd, dz⟩ := (hrs.mono kt).getV hz
            obtain ⟨r, hr', rfl⟩ := map_at hd
            obtain ⟨hf1, hf2, hf3⟩ := hf
            obtain ⟨g1, g2⟩ := hf3 r (List.mem_of_getElem? hr')
            obtain ⟨f, g, o, ps, v4, rfl, hF, hg, hgd, tp, _⟩ := Row.fields dz
            have hbT : SqT K H2 b ys := sqt_mono hS kt
            refine ⟨_, rfl, b, ys, _, _, rfl, rfl, hbT, at_of (j := 0) rfl f0, rfl, _, rfl, ?_⟩
            rw [decV]
            refine ifF (show decide (("part" : Str) = "face") = false by decide +kernel) ⟨_, rfl, f, _, 1, _, rfl, rfl, hF.sq, rfl, g, rfl, ⟨ps, frz_sq hg⟩, fun L nL => ?_⟩
            refine lc_it (walk_tup (K := K) (a := g) (xs := ps)) (fun k H' => Same H2 H' ∧ ∃ ac, H' L = some (.lst ac) ∧ Tds K H' ac ((r.params.take k).map fun q => .str q.2)) ⟨same_new nL, [], upd_same, .nil⟩ (fun k H' _ hP => frz_sq (hP.1 _ _ hg)) (fun k z2 H3 H4 hk hP hY => ?_) (fun H3 hP => ?_)
            · obtain ⟨s3, ac, e3, t3⟩ := hP
              obtain ⟨rfl, hz2⟩ := hY
              obtain ⟨d2, hd2, dz2⟩ := (tp.mono (tk s3)).getV hz2
              obtain ⟨q0, hq0, rfl⟩ := map_at hd2
              obtain ⟨e, w1, w2, rfl, hT, k1, k2⟩ := Td.i2 dz2
              obtain rfl := k1.strI
              obtain rfl := k2.strI
              refine ⟨e, _, rfl, hT.sq, rfl, _, _, rfl, _, _, rfl, rfl, rfl, _, rfl, ac, e3, ?_, smut s3 nL, _, upd_same, ?_⟩
              · rw [t3.len, List.length_map, List.length_take]
                exact lzl (by omega)
              · rw [take_succ' hq0, List.map_append]
                exact Tds.mono (TupK.put (TupK.refl _) e3 rfl) (t3.snoc (.str _))
            · obtain ⟨s3, ac, e3, t3⟩ := hP
              rw [List.take_of_length_le (by rw [tp.len, List.length_map]; exact Nat.le_refl _)] at t3
              refine ⟨L, _, rfl, .inl ⟨.inl (.inl e3), fun p hp => ?_⟩⟩
              generalize hE : upd _ p _ = H4
              obtain ⟨s4, e4⟩ := mk hE hp
              have s34 := s3.trans s4
              have hF4 : SqT K H4 f _ := (hF.mono (tk s34)).sq
              have hb4 : SqT K H4 b ys := sqt_mono hbT (tk s34)
              refine ⟨_, rfl, .inl ⟨rfl, _, .inl (.inl (s34 _ _ ea))⟩, _, rfl, b, ys, _, _, rfl, rfl, hb4, at_of (j := 1) rfl f1, _, _, rfl, rfl, ?_, _, rfl, f, _, 0, _, rfl, rfl, hF4, rfl, _, _, rfl, rfl, ?_, _, rfl, _, rfl, f, _, 2, _, rfl, rfl, hF4, rfl, lz 3, fun p5 hp5 => ?_⟩
              · have e1 : pt.name.length ≤ 1000 := hf1
                exact lz _ (by show pt.name.length + 1 ≤ 100000; omega)
              · have e1 : pt.name.length ≤ 1000 := hf1
                show (pt.name ++ ("." : Str)).length + r.name.length ≤ sizeLine
                rw [str_app_len]
                exact lz _ (by show pt.name.length + 1 + r.name.length ≤ 100000; omega)
              generalize hE : upd _ p5 _ = H5
              obtain ⟨s5, e5⟩ := mk hE hp5
              have s35 := s34.trans s5
              refine ⟨D, acc, _, rfl, rfl, s35 _ _ ea, ?_, _, _, rfl, smut (sb.trans s35) nD, TupK.trans kt (TupK.put (tk s35) ea rfl), _, upd_same, ?_⟩
              · have e1 := hsz (i + 1)
                rw [keep, List.length_append, List.length_map] at e1
                rw [ta.len, List.length_map, List.length_append, List.length_map, List.length_take]
                exact lzl (by omega)
              · have e0 : (headsOf (tw.take i) x ++ (pt.rows.take (j + 1)).map (rowHead pt)).map headD = (headsOf (tw.take i) x ++ (pt.rows.take j).map (rowHead pt)).map headD ++ [headD (rowHead pt r)] := by
                  rw [take_succ' hr']
                  simp
                rw [e0]
                refine Tds.mono (TupK.put (TupK.refl _) (s35 _ _ ea) rfl) ((ta.mono (tk s35)).snoc (.at e5 (.cons (.str _) (.cons (.at (s5 _ _ e4) ?_) (.cons (.str _) .nil)))))
                have e : (r.params.map fun q => q.2).map PyData.str = r.params.map fun q => .str q.2 := by rw [List.map_map]; rfl
                show Tds K H5 ac ((r.params.map fun q => q.2).map PyData.str)
                rw [e]
                exact t3.mono (tk (s4.trans s5))
          · obtain ⟨y4, y5, rfl, sb, kt, acc, ea, ta⟩ := hP
            rw [show pt.rows.take rs.length = pt.rows from List.take_of_length_le (by rw [hrs.len, List.length_map]; exact Nat.le_refl _)] at ta
            exact ⟨_, _, _, rfl, sb, acc, ea, by rw [keep]; exact ta⟩
        · have ein : headsIn x (.part pt) = [] := by
            show (if pt.own = x then _ else _) = _
            rw [if_neg hn]
          rw [ein] at keep
          refine ifF (decide_eq_false hn) ⟨lz 0, fun p hp => ?_⟩
          generalize hE : upd _ p _ = H2
          obtain ⟨s2, e2⟩ := mk hE hp
          refine ⟨p, rfl, ⟨[], .inl (.inl e2)⟩, for_it (walk_tup (K := K) (a := p) (xs := [])) (fun _ σ H' => σ = [some (.ref a), some (.str x), some (.ref D), some (.ref b), y4, y5, none, none] ∧ H' = H2) ⟨rfl, rfl⟩ (fun _ σ H' _ hP => by rw [hP.2]; exact .inl (.inl e2)) (fun i _ _ _ _ hi => absurd hi (Nat.not_lt_zero _)) (fun σ H' hP => ?_)⟩
          obtain ⟨rfl, rfl⟩ := hP
          refine ⟨_, _, _, rfl, sa.trans s2, acc, s2 _ _ ea, ?_⟩
          rw [keep, List.append_nil]
          exact ta.mono (tk s2)
    · obtain ⟨y3, y4, y5, rfl, sa, acc, ea, ta⟩ := hP
      rw [List.take_of_length_le (by omega)] at ta
      exact ⟨_, rfl, q D Ha acc sa nD ea ta⟩
end K27

set_option maxHeartbeats 4000000
namespace K27
open PySem PySem.Spec PyProof.Rows L2
/-! ### names -/
abbrev cds (x : Str) : List Nat := x.cps.toList
def lowS (x : Str) : Prop := ∀ c ∈ cds x, 97 ≤ c ∧ c ≤ 122
theorem cds_app (x y : Str) : cds (x ++ y) = cds x ++ cds y := Array.toList_append
theorem cds_len (x : Str) : (cds x).length = x.length := Array.length_toList
theorem str_ext {x y : Str} (h : cds x = cds y) : x = y := by
  obtain ⟨a⟩ := x
  obtain ⟨b⟩ := y
  have : a = b := Array.ext' h
  rw [this]
theorem cut_lo (z : Str) (a : Nat) (h : a ≤ z.length) : cds (cutS z (some (a : Int)) none) = (cds z).drop a := by
  unfold cutS
  show ((z.cps.toList.drop (HT.sIx z.length 0 (some (a : Int)))).take (HT.sIx z.length z.length none - HT.sIx z.length 0 (some (a : Int)))).toArray.toList = _
  rw [HT.sIx_nat, HT.sIx_none, Nat.min_eq_left h]
  refine List.take_of_length_le ?_
  rw [List.length_drop, Array.length_toList]
  exact Nat.le_refl _
theorem cut_hi (z : Str) (a : Nat) (h : a ≤ z.length) : cds (cutS z none (some (a : Int))) = (cds z).take a := by
  unfold cutS
  show ((z.cps.toList.drop (HT.sIx z.length 0 none)).take (HT.sIx z.length z.length (some (a : Int)) - HT.sIx z.length 0 none)).toArray.toList = _
  rw [HT.sIx_nat, HT.sIx_none, Nat.min_eq_left h]
  rfl
def qS (k : Nat) : Str := if ((k : Int) % 2) = 0 then Str.empty else "q"
def nmS (z : Str) (a f k : Nat) : Str := (cutS z none (some (a : Int)) ++ ((⟨#[97 + (f + 7 * k) % 26]⟩ : Str) ++ cutS z (some (a : Int)) none)) ++ qS k
theorem cds_q (k : Nat) : cds (qS k) = if k % 2 = 0 then [] else [113] := by
  unfold qS
  by_cases h : k % 2 = 0
  · rw [if_pos (by omega), if_pos h]
    rfl
  · rw [if_neg (by omega), if_neg h]
    rfl
theorem nm_cds {z : Str} {a : Nat} (h : a ≤ z.length) (f k : Nat) : cds (nmS z a f k) = ((cds z).take a ++ (97 + (f + 7 * k) % 26) :: (cds z).drop a) ++ (if k % 2 = 0 then [] else [113]) := by
  unfold nmS
  rw [cds_app, cds_app, cds_app, cut_lo z a h, cut_hi z a h, cds_q]
  rfl
theorem nm_len {z : Str} {a : Nat} (h : a ≤ z.length) (f k : Nat) : (nmS z a f k).length = z.length + 1 + k % 2 := by
  rw [← cds_len, nm_cds h, ← cds_len z]
  have h' : a ≤ (cds z).length := by rw [cds_len]; exact h
  rw [List.length_append, List.length_append, List.length_take, List.length_cons, List.length_drop]
  rcases Nat.mod_two_eq_zero_or_one k with e | e
  · rw [e, if_pos rfl]
    simp only [List.length_nil]
    omega
  · rw [e, if_neg (by decide)]
    simp only [List.length_cons, List.length_nil]
    omega
theorem nm_inj {z : Str} {a f k k' : Nat} (h : a ≤ z.length) (hk : k < 26) (hk' : k' < 26) (e : nmS z a f k = nmS z a f k') : k = k' := by
  have el := congrArg Str.length e
  rw [nm_len h, nm_len h] at el
  have hp : k % 2 = k' % 2 := by omega
  have e2 := congrArg cds e
  rw [nm_cds h, nm_cds h, hp] at e2
  have e3 := List.append_cancel_right e2
  have e4 := List.append_cancel_left e3
  have e5 : 97 + (f + 7 * k) % 26 = 97 + (f + 7 * k') % 26 := List.head_eq_of_cons_eq e4
  omega
theorem nm_low {z : Str} {a : Nat} (h : a ≤ z.length) (hz : lowS z) (f k : Nat) : lowS (nmS z a f k) := by
  intro c hc
  rw [nm_cds h, List.mem_append, List.mem_append, List.mem_cons] at hc
  have hm : (f + 7 * k) % 26 < 26 := Nat.mod_lt _ (by decide)
  rcases hc with (hc | hc | hc) | hc
  · exact hz c (List.mem_of_mem_take hc)
  · omega
  · exact hz c (List.mem_of_mem_drop hc)
  · split at hc
    · cases hc
    · rw [List.mem_singleton] at hc
      omega
theorem low_nm {x : Str} (h : lowS x) (h1 : 1 ≤ x.length) (h2 : x.length ≤ 6) : isNm x = true := by
  unfold isNm
  rw [decide_eq_true h1, decide_eq_true h2]
  simp only [Bool.true_and, List.all_eq_true, Bool.and_eq_true, decide_eq_true_eq]
  exact h
theorem nm_isNm {z : Str} {a : Nat} (h : a ≤ z.length) (hz : lowS z) (h4 : z.length ≤ 4) (f k : Nat) : isNm (nmS z a f k) = true := by
  refine low_nm (nm_low h hz f k) ?_ ?_ <;> rw [nm_len h]
  · omega
  · omega
theorem nm_ne {z : Str} {a : Nat} (h : a ≤ z.length) (h4 : z.length ≤ 4) (f k : Nat) : nmS z a f k ≠ "ground" := by
  intro e
  have el := congrArg Str.length e
  rw [nm_len h] at el
  have e6 : ("ground" : Str).length = 6 := by rfl
  rw [e6] at el
  have hk : k % 2 = 1 := by omega
  have e2 := congrArg cds e
  rw [nm_cds h, if_neg (by omega)] at e2
  have e3 := congrArg List.getLast? e2
  rw [List.getLast?_append] at e3
  have e7 : (cds ("ground" : Str)).getLast? = some 100 := by rfl
  rw [e7] at e3
  simp at e3
/-- a name that isn't the ground's -/
def Nm (x : Str) : Prop := isNm x = true ∧ x ≠ "ground"
theorem isNm_len {x : Str} (h : isNm x = true) : x.length ≤ 6 := by
  unfold isNm at h
  simp only [Bool.and_eq_true, decide_eq_true_eq] at h
  exact h.1.2
theorem isNm_low {x : Str} (h : isNm x = true) : lowS x := by
  unfold isNm at h
  simp only [List.all_eq_true, Bool.and_eq_true, decide_eq_true_eq] at h
  exact h.2
theorem letters_cds : cds ("abcdefghijklmnopqrstuvwxyz" : Str) = (List.range 26).map fun i => 97 + i := by rfl
variable {P : Program} {w : World} {K : PySem.W.Frag} {mg : Str → Option Value} {base : Heap}
theorem Bx.keep {H : Hp} {b p : Addr} {o : HO} (h : Bx H b) (n : b ≠ p) : Bx (upd H p o) b := by
  obtain ⟨i, j, k, h⟩ := h
  exact ⟨i, j, k, by rw [upd_ne n]; exact h⟩
theorem Bx.same {H H' : Hp} {b : Addr} (h : Bx H b) (s : Same H H') : Bx H' b := by
  obtain ⟨i, j, k, h⟩ := h
  exact ⟨i, j, k, s _ _ h⟩
theorem Bx.ne {H : Hp} {b p : Addr} (h : Bx H b) (n : H p = none) : p ≠ b := by
  obtain ⟨i, j, k, h⟩ := h
  exact (ne_of_none h n).symm
theorem joinE : ∀ ys : List Str, cds (Txt.join Str.empty ys) = (ys.map cds).flatten := by
  intro ys
  rw [TL.join_eq]
  show TL.tl (Str.join Str.empty ys) = _
  rw [TL.tl_join]
  have key : ∀ l : List (List Nat), TL.joinL (TL.tl Str.empty) l = l.flatten := by
    intro l
    have e : TL.tl Str.empty = [] := rfl
    rw [e]
    induction l with
    | nil => rfl
    | cons p r ih =>
      cases r with
      | nil => simp [TL.joinL]
      | cons q r =>
        show p ++ ([] ++ TL.joinL [] (q :: r)) = _
        rw [List.nil_append, ih]
        rfl
  rw [key]
def spPool (K : PySem.W.Frag) : Sp := fun vs H Q _ => ∃ (b : Addr) (n : Nat), vs = [.ref b, .int n] ∧ Bx H b ∧ n ≤ 20 ∧
  ∀ p H' (xs : List Str), But b H H' → Bx H' b → H p = none → H' p = some (.lst (xs.map .str)) → xs.length = n → xs.Nodup → (∀ x ∈ xs, Nm x) → Q (.ref p) H'
abbrev N_Lpool : List Str := ["_law_box_here", "_law_many", "_law_letters", "_law_found", "_law_stem", "_law_at", "_law_first", "_law_k", "_law_sign"]
theorem sc_Lpool : FnScope N_Lpool ["_law_box_here", "_law_many"] (defScope s_Lpool) := ⟨rfl, rfl, rfl, by decide +kernel, rfl, by decide +kernel, by decide +kernel⟩
theorem ok_Lpool (T : TX K mg) : Ok P w K mg base CX0 3 "_law_pool" ["_law_box_here", "_law_many"] (spPool K) := by
  refine Ok.mk' T T.m_Lpool T.f_Lpool sc_Lpool (fun vs H Q E h => ?_) (fun _ _ _ _ _ _ us hl => match us, hl with | [_, _], _ => rfl) (fun cdv A outer s H vs Q E hr h => ?_)
  · obtain ⟨b, n, rfl, _⟩ := h
    rfl
  · obtain ⟨b, n, rfl, hb, hn, q⟩ := h
    refine ⟨_, (pss_cons (ps_asg (pe_tup (pa_cons pe_str (pa_cons (pe_lst pa_nil) pa_nil))) (pg_tup rfl (pgs_cons (pg_name (i := 2) sc_Lpool.nd rfl (.inr rfl)) (pgs_cons (pg_name (i := 3) sc_Lpool.nd rfl (.inl rfl)) pgs_nil))))
      (pss_cons (ps_set (i := 4) sc_Lpool.nd rfl (Or.inl rfl) (pe_join pe_str (pe_lc (own := [("_law_k", 7)]) (g := gName 7) (tt := tYes) (by rfl) sc_Lpool.nd (pi_range1 (by rfl) T.n_range (pa_cons (pe_ok (ok_Ltake T) hr (by decide) (by rfl) (pa_cons (pv 0) (pa_cons pe_int pa_nil)) pass0) pa_nil)) (blkOk_by (own := [("_law_k", 7)]) (N := N_Lpool) (sc := defScope s_Lpool) (by decide +kernel)) (fun _ _ _ _ _ => (pg_name (i := 7) sc_Lpool.nd rfl (Or.inl rfl))) (fun _ _ _ _ _ => pts_nil) (fun _ _ _ _ _ => (pe_ok (ok_Lone_of T) hr (by decide) (by rfl) (pa_cons (pv 0) (pa_cons (pv 2) pa_nil)) pass0)))))
      (pss_cons (ps_par (i := 5) (j := 6) (by rfl) sc_Lpool.nd rfl rfl (by decide) rfl rfl (pa_cons (pe_ok (ok_Ltake T) hr (by decide) (by rfl) (pa_cons (pv 0) (pa_cons (pe_op op_add (pe_callB call_len_str (by rfl) T.n_len PySem.boot_len (pa_cons (pv 4) pa_nil)) pe_int) pa_nil)) pass0) (pa_cons (pe_ok (ok_Ltake T) hr (by decide) (by rfl) (pa_cons (pv 0) (pa_cons pe_int pa_nil)) pass0) pa_nil)) (by rfl))
      (pss_cons (ps_for PassesOwn.never rfl (pi_range1 (by rfl) T.n_range (pa_cons (pv 1) pa_nil)) (pg_name (i := 7) sc_Lpool.nd rfl (.inl rfl))
        (pss_cons (ps_set (i := 8) sc_Lpool.nd rfl (Or.inl rfl) (pe_op op_add_str (pe_ix ix_str (pv 2) (pe_op op_mod (pe_op op_add (pv 6) (pe_op op_mul pe_int (pv 7))) pe_int) (fun _ _ => rfl)) (pe_slice sl_str (pv 4) (po_some (pv 5)) po_none)))
        (pss_one (ps_expr (pe_bm PySem.F.plainAttrs_list PySem.F.slot_list_append PySem.F.type_list_append mt_append (pv 3) (pa_cons (pe_op op_add_str (pe_op op_add_str (pe_slice sl_str (pv 4) po_none (po_some (pv 5))) (pv 8)) (pe_op op_repS pe_str (pe_op op_mod (pv 7) pe_int))) pa_nil))))))
      (pss_one (ps_ret (pv 3))))))), ?_⟩
    -- the list that is found
    refine ⟨lz 0, fun F nF => ?_⟩
    generalize hE : upd _ F _ = H1
    obtain ⟨s1, e1⟩ := mk hE nF
    refine ⟨lz 2, fun p1 h1 => ?_⟩
    generalize hE : upd _ p1 _ = H2
    obtain ⟨s2, e2⟩ := mk hE h1
    refine ⟨p1, _, rfl, .inl (.inl e2), rfl, _, _, rfl, _, _, rfl, rfl, ?_⟩
    have sm := s1.trans s2
    have hb2 := hb.same sm
    -- the stem
    refine ⟨⟨_, rfl⟩, _, rfl, b, 5, rfl, hb2, by decide, by decide, fun r H3 r0 r1 hB3 hb3 => ⟨r, rfl, by omega, by omega, fun D nD => ?_⟩⟩
    have nDb : D ≠ b := hb3.ne nD
    obtain ⟨m, rfl⟩ : ∃ m : Nat, r = (m : Int) := ⟨r.toNat, by omega⟩
    refine lc_it walk_range (fun i H' => But b H3 H' ∧ Bx H' b ∧ ∃ ys : List Str, H' D = some (.lst (ys.map .str)) ∧ ys.length = i ∧ ∀ y ∈ ys, y.length = 1 ∧ lowS y) ⟨But.new nD, hb3.keep nDb.symm, [], upd_same, rfl, fun _ h => nomatch h⟩ (fun _ _ _ _ => trivial) (fun i x Ha Hb hi hP hY => ?_) (fun Ha hP => ?_)
    · obtain ⟨hBa, hba, ys, ea, hl, hy⟩ := hP
      obtain ⟨rfl, rfl⟩ := hY
      refine ⟨rfl, _, rfl, _, rfl, b, _, _, rfl, hba, .inr (.inr ⟨_, rfl, by decide, rfl⟩), by decide, by decide, fun x H5 hx hB5 hb5 => ?_⟩
      obtain ⟨c, hc, rfl⟩ := List.mem_map.mp hx
      have ea5 := hB5 _ _ nDb ea
      refine ⟨_, ea5, by rw [List.length_map]; exact lzl (by omega), (hBa.trans hB5).mut nD, hb5.keep nDb.symm, ys ++ [⟨#[c]⟩], by rw [upd_same, List.map_append]; rfl, by rw [List.length_append, hl]; rfl, fun y hy' => ?_⟩
      rcases List.mem_append.mp hy' with h | h
      · exact hy y h
      · rw [List.mem_singleton] at h
        subst h
        refine ⟨rfl, fun c' hc' => ?_⟩
        have e : c' = c := List.mem_singleton.mp hc'
        subst e
        have hc2 : c' ∈ cds ("abcdefghijklmnopqrstuvwxyz" : Str) := hc
        rw [letters_cds, List.mem_map] at hc2
        obtain ⟨j, hj, rfl⟩ := hc2
        have := List.mem_range.mp hj
        omega
    obtain ⟨hBa, hba, ys, ea, hl, hy⟩ := hP
    have hys : ∀ l : List Str, (∀ y ∈ l, y.length = 1 ∧ lowS y) → ((l.map cds).flatten).length = l.length ∧ ∀ c ∈ (l.map cds).flatten, 97 ≤ c ∧ c ≤ 122 := by
      intro l h
      induction l with
      | nil => exact ⟨rfl, fun _ h => nomatch h⟩
      | cons y r ih =>
        obtain ⟨i1, i2⟩ := ih fun z hz => h z (List.mem_cons_of_mem _ hz)
        obtain ⟨j1, j2⟩ := h y List.mem_cons_self
        rw [List.map_cons, List.flatten_cons]
        refine ⟨by rw [List.length_append, i1, cds_len, j1, List.length_cons, Nat.add_comm], fun c hc => ?_⟩
        rcases List.mem_append.mp hc with hc | hc
        · exact j2 c hc
        · exact i2 c hc
    obtain ⟨z1, z2⟩ := hys ys hy
    have hsum : ∀ l : List Str, (∀ y ∈ l, y.length = 1 ∧ lowS y) → (l.map (·.length)).sum = l.length := by
      intro l h
      induction l with
      | nil => rfl
      | cons y r ih => rw [List.map_cons, List.sum_cons, ih fun z hz => h z (List.mem_cons_of_mem _ hz), (h y List.mem_cons_self).1, List.length_cons, Nat.add_comm]
    refine ⟨_, D, ys, rfl, rfl, .inl (.inl (.inl ea)), ?_, ?_⟩
    · rw [hsum ys hy, hl]
      show m + m * 0 ≤ 16777216
      omega
    generalize hz : Txt.join (Str.ofString "") ys = z
    have ez : cds z = (ys.map cds).flatten := by rw [← hz]; exact joinE ys
    have hzl : z.length ≤ 4 := by rw [← cds_len, ez, z1, hl]; omega
    have hzlow : lowS z := fun c hc => z2 c (by rw [← ez]; exact hc)
    have hB0 : But b H Ha := (But.of sm).trans (hB3.trans hBa)
    have eF : Ha F = some (.lst []) := (hB3.trans hBa) _ _ (hb.ne nF) (s2 _ _ e1)
    refine ⟨_, rfl, _, rfl, z, rfl, lz _ (by omega), _, _, rfl, rfl, b, _, rfl, hba, by omega, by omega, fun a H5 a0 a1 hB5 hb5 => ?_⟩
    refine ⟨_, rfl, b, 26, rfl, hb5, by decide, by decide, fun f H6 f0 f1 hB6 hb6 => ⟨_, _, rfl, ?_⟩⟩
    obtain ⟨a, rfl⟩ : ∃ m : Nat, a = (m : Int) := ⟨a.toNat, by omega⟩
    obtain ⟨f, rfl⟩ : ∃ m : Nat, f = (m : Int) := ⟨f.toNat, by omega⟩
    have haz : a ≤ z.length := by omega
    have hB7 : But b H H6 := hB0.trans (hB5.trans hB6)
    have eF6 : H6 F = some (.lst []) := (hB5.trans hB6) _ _ (hb.ne nF) eF
    refine ⟨_, rfl, (n : Int), rfl, by omega, by omega, for_it walk_range (fun i σ H' => ∃ y7 y8, σ = [some (.ref b), some (.int n), some (.str "abcdefghijklmnopqrstuvwxyz"), some (.ref F), some (.str z), some (.int a), some (.int f), y7, y8] ∧ (∀ c, c ≠ F → H' c = H6 c) ∧ H' F = some (.lst (((List.range i).map (nmS z a f)).map .str)))
      ⟨none, none, rfl, fun _ _ => rfl, eF6⟩ (fun _ _ _ _ _ => trivial) (fun i x σ Hc Hd hi hP hY => ?_) (fun σ Hc hP => ?_)⟩
    · obtain ⟨y7, y8, rfl, hk, ec⟩ := hP
      obtain ⟨rfl, rfl⟩ := hY
      have hi' : i < n := by omega
      have ecode : atI (cds ("abcdefghijklmnopqrstuvwxyz" : Str)) (((f : Int) + 7 * (0 + (i : Int))) % 26) = some (97 + (f + 7 * i) % 26) := by
        have e1 : ((f : Int) + 7 * (0 + (i : Int))) % 26 = (((f + 7 * i) % 26 : Nat) : Int) := by omega
        rw [e1]
        refine atI_nat ?_
        rw [letters_cds, List.getElem?_map, List.getElem?_range (Nat.mod_lt _ (by decide))]
        rfl
      have l1 : (cutS z (some (a : Int)) none).length ≤ 4 := Nat.le_trans (cutS_length _ _ _) hzl
      have l2 : (cutS z none (some (a : Int))).length ≤ 4 := Nat.le_trans (cutS_length _ _ _) hzl
      refine ⟨_, rfl, _, rfl, _, rfl, _, _, rfl, rfl, .inl (by decide), _, _, rfl, rfl, _, _, rfl, rfl, (by show (0 : Int) < 26; decide), _, _, _, rfl, rfl, by decide, ecode, ?_⟩
      refine ⟨_, rfl, _, rfl, _, rfl, z, rfl, lz _ (by omega), _, _, rfl, rfl, lz _ (by show 1 + _ ≤ _; omega), ?_⟩
      refine ⟨_, rfl, .inl ⟨rfl, _, .inl (.inl ec)⟩, _, rfl, _, rfl, _, rfl, z, rfl, lz _ (by omega), _, rfl, _, _, rfl, rfl, ?_, _, rfl, _, _, rfl, rfl, (by show (0 : Int) < 2; decide), _, _, rfl, rfl, by omega, _, _, rfl, rfl, ?_, F, _, _, rfl, rfl, ec, ?_, _, _, rfl, fun c hc => ?_, ?_⟩
      · rw [str_app_len]
        exact lz _ (by show _ + (1 + _) ≤ _; omega)
      · rw [str_app_len, str_app_len]
        have : (if ((0 : Int) + (i : Int)) % 2 = 0 then Str.empty else ("q" : Str)).length ≤ 1 := by
          split <;> decide
        exact lz _ (by show _ + (1 + _) + (if ((0 : Int) + (i : Int)) % 2 = 0 then Str.empty else ("q" : Str)).length ≤ _; omega)
      · rw [List.length_map, List.length_map, List.length_range]
        exact lzl (by omega)
      · rw [upd_ne hc]
        exact hk c hc
      · rw [upd_same, List.range_succ, List.map_append, List.map_append]
        have e1 : (0 : Int) + (i : Int) = (i : Int) := Int.zero_add _
        show some (HO.lst (_ ++ [V.str ((cutS z none (some (a : Int)) ++ ((⟨#[97 + (f + 7 * i) % 26]⟩ : Str) ++ cutS z (some (a : Int)) none)) ++ (if ((0 : Int) + (i : Int)) % 2 = 0 then Str.empty else "q"))])) = _
        rw [e1]
        rfl
    obtain ⟨y7, y8, rfl, hk, ec⟩ := hP
    have hFb : F ≠ b := hb.ne nF
    refine ⟨_, rfl, q F Hc ((List.range n).map (nmS z a f)) (fun c o hc e => ?_) ?_ nF (by simpa using ec) (by simp) ?_ fun x hx => ?_⟩
    · rw [hk c (ne_of_none e nF)]
      exact hB7 c o hc e
    · obtain ⟨i, j, k, h⟩ := hb6
      exact ⟨i, j, k, by rw [hk b hFb.symm]; exact h⟩
    · refine List.pairwise_map.mpr (List.nodup_range.imp_of_mem fun {i j} hi hj ne e => ne ?_)
      exact nm_inj haz (by have := List.mem_range.mp hi; omega) (by have := List.mem_range.mp hj; omega) e
    · obtain ⟨i, _, rfl⟩ := List.mem_map.mp hx
      exact ⟨nm_isNm haz hzlow hzl f i, nm_ne haz hzl f i⟩
end K27

set_option maxHeartbeats 4000000
namespace K27
open PySem PySem.Spec PyProof.Rows L2
/-! ### signs -/
theorem up_cds {x : Str} (h : lowS x) : cds (Txt.upper x) = (cds x).map fun c => c - 32 := by
  rw [upper_ascii fun c hc => by have := h c hc; omega]
  show (x.cps.map up1).toList = _
  rw [Array.toList_map]
  refine List.map_congr_left fun c hc => ?_
  have := h c hc
  unfold up1
  rw [if_pos this]
theorem up_inj {x y : Str} (hx : lowS x) (hy : lowS y) (e : Txt.upper x = Txt.upper y) : x = y := by
  have e2 := congrArg cds e
  rw [up_cds hx, up_cds hy] at e2
  refine str_ext ?_
  have key : ∀ (l m : List Nat), (∀ c ∈ l, 97 ≤ c ∧ c ≤ 122) → (∀ c ∈ m, 97 ≤ c ∧ c ≤ 122) → (l.map fun c => c - 32) = (m.map fun c => c - 32) → l = m := by
    intro l
    induction l with
    | nil => intro m _ _ e; cases m with
      | nil => rfl
      | cons a m => cases e
    | cons a l ih => intro m h1 h2 e; cases m with
      | nil => cases e
      | cons b m =>
        rw [List.map_cons, List.map_cons] at e
        injection e with e1 e2
        have a1 := h1 a List.mem_cons_self
        have a2 := h2 b List.mem_cons_self
        rw [ih m (fun c hc => h1 c (List.mem_cons_of_mem _ hc)) (fun c hc => h2 c (List.mem_cons_of_mem _ hc)) e2]
        congr 1
        omega
  exact key _ _ hx hy e2
def marks : List Str := ["+", "-", "*", "/", "=", "<", ">", "(", ")", "[", "]", ",", ";", "?"]
theorem marks_eq : (cds ("+-*/=<>()[],;?" : Str)).map (fun c => V.str ⟨#[c]⟩) = marks.map V.str := by rfl
theorem up_mark {x : Str} (hx : isNm x = true) : Txt.upper x ∉ marks := by
  intro hm
  have h1 : 1 ≤ x.length := by
    unfold isNm at hx
    simp only [Bool.and_eq_true, decide_eq_true_eq] at hx
    exact hx.1.1
  have hl := isNm_low hx
  have e := up_cds hl
  have hne : cds x ≠ [] := fun z => by
    rw [← cds_len, z] at h1
    cases h1
  obtain ⟨c, r, hc⟩ := List.exists_cons_of_ne_nil hne
  have hc2 := hl c (by rw [hc]; exact List.mem_cons_self)
  rw [hc, List.map_cons] at e
  have key : ∀ m ∈ marks, ∀ d ∈ cds m, ¬ (65 ≤ d ∧ d ≤ 90) := by decide +kernel
  exact key _ hm (c - 32) (by rw [e]; exact List.mem_cons_self) (by omega)
theorem perm_erase {α : Type} : ∀ (l : List α) (i : Nat) (h : i < l.length), (l[i] :: l.eraseIdx i).Perm l
  | [], i, h => absurd h (Nat.not_lt_zero _)
  | a :: l, 0, h => List.Perm.refl _
  | a :: l, i + 1, h => by
    show (l[i]'(by simpa using h) :: a :: l.eraseIdx i).Perm (a :: l)
    exact (List.Perm.swap _ _ _).trans (List.Perm.cons a (perm_erase l i (by simpa using h)))
theorem map_erase {α β : Type} (f : α → β) : ∀ (l : List α) (i : Nat), (l.map f).eraseIdx i = (l.eraseIdx i).map f
  | [], i => by simp
  | a :: l, 0 => rfl
  | a :: l, i + 1 => by
    show f a :: (l.map f).eraseIdx i = f a :: (l.eraseIdx i).map f
    rw [map_erase f l i]
theorem nodup_pop {f m : List Str} {k j : Nat} {y : Str} (h : (f ++ m).Nodup) (hk : k < f.length) (hj : m[j]? = some y) : (f.set k y ++ m.eraseIdx j).Nodup := by
  obtain ⟨hj', ej⟩ := List.getElem?_eq_some_iff.mp hj
  have p1 : m.Perm (y :: m.eraseIdx j) := by
    rw [← ej]
    exact (perm_erase m j hj').symm
  have p2 : (f.set k y).Perm (y :: f.eraseIdx k) := by
    have e1 : (f.set k y)[k]'(by rw [List.length_set]; exact hk) = y := by simp
    have := (perm_erase (f.set k y) k (by rw [List.length_set]; exact hk)).symm
    rw [e1, List.eraseIdx_set_eq] at this
    exact this
  have h1 : (f ++ (y :: m.eraseIdx j)).Nodup := ((List.Perm.refl f).append p1).nodup_iff.mp h
  rw [(p2.append (List.Perm.refl (m.eraseIdx j))).nodup_iff]
  have s1 : (y :: f.eraseIdx k ++ m.eraseIdx j).Sublist (y :: f ++ m.eraseIdx j) := (List.Sublist.cons_cons y ((List.eraseIdx_sublist f k))).append (List.Sublist.refl _)
  refine s1.nodup ?_
  rw [List.cons_append]
  exact (List.perm_middle.nodup_iff).mp h1
variable {P : Program} {w : World} {K : PySem.W.Frag} {mg : Str → Option Value} {base : Heap}
theorem Bx.at {H : Hp} {b p : Addr} {xs : List Str} (h : Bx H b) (e : H p = some (.lst (xs.map .str))) : p ≠ b := by
  intro z
  obtain ⟨i, j, k, h⟩ := h
  rw [z, h] at e
  cases xs with
  | nil => cases e
  | cons x r => cases e
def spSigns (K : PySem.W.Frag) : Sp := fun vs H Q _ => ∃ (b : Addr) (n : Nat), vs = [.ref b, .int n] ∧ Bx H b ∧ n ≤ 12 ∧
  ∀ p H' (xs : List Str), But b H H' → Bx H' b → H p = none → H' p = some (.lst (xs.map .str)) → xs.length = n → xs.Nodup → Q (.ref p) H'
abbrev N_Lsigns : List Str := ["_law_box_here", "_law_many", "_law_found", "_law_marks", "_law_k", "_law_word"]
theorem sc_Lsigns : FnScope N_Lsigns ["_law_box_here", "_law_many"] (defScope s_Lsigns) := ⟨rfl, rfl, rfl, by decide +kernel, rfl, by decide +kernel, by decide +kernel⟩
theorem ok_Lsigns (T : TX K mg) : Ok P w K mg base CX0 4 "_law_signs" ["_law_box_here", "_law_many"] (spSigns K) := by
  refine Ok.mk' T T.m_Lsigns T.f_Lsigns sc_Lsigns (fun vs H Q E h => ?_) (fun _ _ _ _ _ _ us hl => match us, hl with | [_, _], _ => rfl) (fun cdv A outer s H vs Q E hr h => ?_)
  · obtain ⟨b, n, rfl, _⟩ := h
    rfl
  · obtain ⟨b, n, rfl, hb, hn, q⟩ := h
    refine ⟨_, (pss_cons (ps_par (i := 2) (j := 3) (by rfl) sc_Lsigns.nd rfl rfl (by decide) rfl rfl (pa_cons (pe_lc (own := [("_law_word", 5)]) (g := gName 5) (tt := tYes) (by rfl) sc_Lsigns.nd (pi_list (pe_ok (ok_Lpool T) hr (by decide) (by rfl) (pa_cons (pv 0) (pa_cons (pv 1) pa_nil)) pass0)) (blkOk_by (own := [("_law_word", 5)]) (N := N_Lsigns) (sc := defScope s_Lsigns) (by decide +kernel)) (fun _ _ _ _ _ => (pg_name (i := 5) sc_Lsigns.nd rfl (Or.inl rfl))) (fun _ _ _ _ _ => pts_nil) (fun _ _ _ _ _ => (pe_upper (pv 5)))) (pa_cons (pe_callTy (call_listS rfl) (by rfl) T.n_list (by decide +kernel) (pa_cons pe_str pa_nil)) pa_nil)) (by rfl))
      (pss_cons (ps_for PassesOwn.never rfl (pi_range1 (by rfl) T.n_range (pa_cons (pv 1) pa_nil)) (pg_name (i := 4) sc_Lsigns.nd rfl (.inl rfl))
        (pss_one (ps_if (pt_cmpR op_eq (pe_ok (ok_Ltake T) hr (by decide) (by rfl) (pa_cons (pv 0) (pa_cons pe_int pa_nil)) pass0) pe_int (nomark _))
          (pss_one (ps_asg (pe_bm PySem.F.plainAttrs_list PySem.F.slot_list_pop PySem.F.type_list_pop mt_popAt (pv 3) (pa_cons (pe_ok (ok_Ltake T) hr (by decide) (by rfl) (pa_cons (pv 0) (pa_cons (pe_callB call_len_seq (by rfl) T.n_len PySem.boot_len (pa_cons (pv 3) pa_nil)) pa_nil)) pass0) pa_nil)) (pg_sub (pv 2) (pv 4) set_list)))
          pss_nil)))
      (pss_one (ps_ret (pv 2))))), ?_⟩
    refine ⟨_, rfl, _, rfl, b, n, rfl, hb, by omega, fun p H1 xs hB1 hb1 np e1 hl hnd hnm => ?_⟩
    refine ⟨p, rfl, ⟨_, .inl (.inl e1)⟩, fun D nD => lc_it (walk_list (xs := xs.map V.str)) (fun i H' => Same H1 H' ∧ H' D = some (.lst (((xs.take i).map Txt.upper).map .str))) ⟨same_new nD, upd_same⟩ (fun i H' _ hP => Same.seq hP.1 (.inl (.inl e1))) (fun i x Ha Hb hi hP hY => ?_) (fun Ha hP => ?_)⟩
    · obtain ⟨sa, ea⟩ := hP
      obtain ⟨rfl, hx⟩ := hY
      obtain ⟨z, hz, rfl⟩ := map_at hx
      have hzn := hnm z (List.mem_of_getElem? hz)
      have hz6 := isNm_len hzn.1
      refine ⟨rfl, _, rfl, ⟨_, rfl⟩, z, rfl, rfl, by omega, _, ea, ?_, smut sa nD, ?_⟩
      · rw [List.length_map, List.length_map, List.length_take]
        exact lzl (by omega)
      · rw [upd_same, take_succ' hz, List.map_append, List.map_append]
        rfl
    obtain ⟨sa, ea⟩ := hP
    rw [show xs.take (xs.map V.str).length = xs from List.take_of_length_le (by rw [List.length_map]; exact Nat.le_refl _)] at ea
    refine ⟨_, rfl, by decide, fun M nM => ⟨_, _, rfl, ?_⟩⟩
    generalize hE : upd _ M _ = H2
    obtain ⟨s2, e2⟩ := mk hE nM
    rw [marks_eq] at e2
    have sD := s2 _ _ ea
    have hDM : D ≠ M := ne_of_none ea nM
    have hb2 := (hb1.same sa).same s2
    have hDb : D ≠ b := hb1.ne nD
    have hMb : M ≠ b := (hb1.same sa).ne nM
    have nDH : H D = none := hB1.free hDb nD
    have nMH : H M = none := hB1.free hMb (Same.free sa nM)
    have hBb : But b H H2 := hB1.trans (But.of (sa.trans s2))
    refine ⟨_, rfl, (n : Int), rfl, by omega, by omega, for_it walk_range (fun i σ H' => ∃ y4, σ = [some (.ref b), some (.int n), some (.ref D), some (.ref M), y4, none] ∧ But b H H' ∧ Bx H' b ∧ ∃ f m : List Str, H' D = some (.lst (f.map .str)) ∧ H' M = some (.lst (m.map .str)) ∧ f.length = n ∧ 14 ≤ m.length + i ∧ m.length ≤ 14 ∧ (f ++ m).Nodup)
      ⟨none, rfl, hBb, hb2, xs.map Txt.upper, marks, sD, e2, by rw [List.length_map, hl], by decide, by decide, ?_⟩ (fun _ _ _ _ _ => trivial) (fun i x σ Hc Hd hi hP hY => ?_) (fun σ Hc hP => ?_)⟩
    · refine List.nodup_append.mpr ⟨?_, by decide +kernel, fun a ha c hc e => ?_⟩
      · refine List.pairwise_map.mpr (hnd.imp_of_mem fun {a c} ha hc ne e => ne ?_)
        exact up_inj (isNm_low (hnm a ha).1) (isNm_low (hnm c hc).1) e
      · obtain ⟨z, hz, rfl⟩ := List.mem_map.mp ha
        exact up_mark (hnm z hz).1 (by rw [e]; exact hc)
    · obtain ⟨y4, rfl, hB, hbc, f, m, ef, em, lf, lm, lm2, hnd2⟩ := hP
      obtain ⟨rfl, rfl⟩ := hY
      have hi' : i < n := by omega
      refine ⟨_, rfl, b, 3, rfl, hbc, by decide, by decide, fun r H3 r0 r1 hB3 hb3 => ?_⟩
      have ef3 := hB3 _ _ hDb ef
      have em3 := hB3 _ _ hMb em
      refine ⟨rfl, _, rfl, ite2 (fun _ => ?_) (fun _ => ?_)⟩
      · refine ⟨_, rfl, .inl ⟨rfl, _, .inl (.inl em3)⟩, _, rfl, _, rfl, M, _, rfl, .inl (.inl (.inl em3)), b, _, rfl, hb3, ?_, ?_, fun j H4 j0 j1 hB4 hb4 => ?_⟩
        · rw [List.length_map]; omega
        · rw [List.length_map]; omega
        rw [List.length_map] at j1
        obtain ⟨j, rfl⟩ : ∃ t : Nat, j = (t : Int) := ⟨j.toNat, by omega⟩
        have hj : j < m.length := by omega
        have ef4 := hB4 _ _ hDb ef3
        have em4 := hB4 _ _ hMb em3
        have ej : m[j]? = some m[j] := List.getElem?_eq_getElem hj
        have nMD : D ≠ M := hDM
        refine ⟨M, _, j, j, .str m[j], rfl, rfl, em4, by omega, by omega, ?_, by rw [List.getElem?_map, ej]; rfl, ?_⟩
        · rw [seqIndex_of (by omega) (by rw [List.length_map]; omega)]
          rfl
        have ef5 : (upd H4 M (.lst ((m.map V.str).eraseIdx j))) D = some (.lst (f.map .str)) := by rw [upd_ne nMD]; exact ef4
        refine ⟨_, rfl, _, rfl, D, _, _, i, rfl, rfl, ef5, ?_, _, rfl, ?_, ?_, f.set i m[j], m.eraseIdx j, ?_, ?_, by rw [List.length_set, lf], ?_, ?_, nodup_pop hnd2 (by omega) ej⟩
        · show ixN _ (0 + (i : Int)) = some i
          rw [Int.zero_add]
          exact Evl.ixN_nat (by rw [List.length_map]; omega)
        · exact (((hB.trans hB3).trans hB4).mut nMH).mut nDH
        · exact (hb4.keep hMb.symm).keep hDb.symm
        · rw [upd_same, List.map_set]
        · rw [upd_ne nMD.symm, upd_same, map_erase]
        · rw [List.length_eraseIdx, if_pos hj]; omega
        · rw [List.length_eraseIdx, if_pos hj]; omega
      · exact ⟨_, rfl, hB.trans hB3, hb3, f, m, ef3, em3, lf, by omega, lm2, hnd2⟩
    · obtain ⟨y4, rfl, hB, hbc, f, m, ef, em, lf, lm, lm2, hnd2⟩ := hP
      exact ⟨_, rfl, q D Hc f hB hbc nDH ef lf (List.nodup_append.mp hnd2).1⟩
end K27

set_option maxHeartbeats 4000000
namespace K27
open PySem PySem.Spec PyProof.Rows L2
/-! ### items -/
def isName : Item → Bool
  | .name _ => true
  | _ => false
def nNames (l : List Item) : Nat := (l.filter isName).length
def itemOk (ks : List Str) (n : Nat) : Item → Prop
  | .sign _ => True
  | .lit => True
  | .name k => k ∈ ks
  | .term k os => k ∈ ks ∧ (∀ j ∈ os, j < n) ∧ os.length ≤ 2
def itemsOk (ks : List Str) (l : List Item) : Prop := ∀ i it, l[i]? = some it → itemOk ks (nNames (l.take i)) it
theorem nNames_snoc (l : List Item) (it : Item) : nNames (l ++ [it]) = nNames l + if isName it = true then 1 else 0 := by
  unfold nNames
  rw [List.filter_append, List.length_append]
  cases it <;> rfl
theorem itemsOk_snoc {ks : List Str} {l : List Item} {it : Item} (h : itemsOk ks l) (h2 : itemOk ks (nNames l) it) : itemsOk ks (l ++ [it]) := by
  intro i jt e
  by_cases hi : i < l.length
  · rw [List.getElem?_append_left hi] at e
    rw [List.take_append_of_le_length (Nat.le_of_lt hi)]
    exact h i jt e
  · have hl : i = l.length := by
      have := (List.getElem?_eq_some_iff.mp e).1
      rw [List.length_append] at this
      simp only [List.length_cons, List.length_nil] at this
      omega
    subst hl
    have e2 : it = jt := by simpa using e
    subst e2
    rw [List.take_append_of_le_length (Nat.le_refl _), List.take_length]
    exact h2
def Item.tag : Item → Str
  | .sign _ => "sign"
  | .lit => "lit"
  | .name _ => "name"
  | .term _ _ => "term"
def Item.rest : Item → List PyData
  | .sign s => [.str s]
  | .lit => []
  | .name k => [.str k]
  | .term k os => [.str k, .tuple (os.map fun j => .int (j : Nat))]
theorem Item.data_eq (it : Item) : it.data = .tuple (.str it.tag :: it.rest) := by cases it <;> rfl
theorem Item.fields {K : PySem.W.Frag} {H : Hp} {v : V} {it : Item} (h : Td K H v it.data) : ∃ a xs, v = .ref a ∧ Tu K H a (.str it.tag :: xs) ∧ Tds K H xs it.rest := by
  rw [Item.data_eq] at h
  obtain ⟨a, xs, rfl, h, t⟩ := h.inv
  obtain ⟨v1, r, rfl, h1, t2⟩ := t.cons_inv
  obtain rfl := h1.strI
  exact ⟨a, r, rfl, h, t2⟩
def sorts : List Str := ["term", "term", "name", "lit", "sign", "term"]
theorem sorts_mem {x : Str} (h : x ∈ sorts) : x = "lit" ∨ x = "name" ∨ x = "term" ∨ x = "sign" := by
  unfold sorts at h
  simp only [List.mem_cons, List.not_mem_nil, or_false] at h
  rcases h with h | h | h | h | h | h
  · exact .inr (.inr (.inl h))
  · exact .inr (.inr (.inl h))
  · exact .inr (.inl h)
  · exact .inl h
  · exact .inr (.inr (.inr h))
  · exact .inr (.inr (.inl h))
theorem tag_name (it : Item) : decide (it.tag = "name") = isName it := by cases it <;> rfl
theorem nNames_take_le (l : List Item) (i : Nat) : nNames (l.take i) ≤ nNames l := by
  unfold nNames
  exact ((List.take_sublist i l).filter _).length_le
variable {P : Program} {w : World} {K : PySem.W.Frag} {mg : Str → Option Value} {base : Heap}
def lefts (l n t s : Int) : List (Key × V) := [(.inr "lit", .int l), (.inr "name", .int n), (.inr "term", .int t), (.inr "sign", .int s)]
def kit4 (p0 p1 p2 p3 : Addr) : List (Key × V) := [(.inr "lit", .ref p0), (.inr "name", .ref p1), (.inr "term", .ref p2), (.inr "sign", .ref p3)]
def spItems (K : PySem.W.Frag) : Sp := fun vs H Q _ => ∃ (b ka sa : Addr) (ks ss : List Str), vs = [.ref b, .ref ka, .ref sa] ∧ Bx H b ∧ H ka = some (.lst (ks.map .str)) ∧ H sa = some (.lst (ss.map .str)) ∧ 0 < ks.length ∧ ks.length ≤ 100 ∧ 0 < ss.length ∧ ss.length ≤ 100 ∧
  ∀ v H' (l : List Item), But b H H' → Bx H' b → Td K H' v (.tuple (l.map Item.data)) → itemsOk ks l → nNames l ≤ 2 → l.length ≤ 7 → Q v H'
abbrev N_Litems : List Str := ["_law_box_here", "_law_kinds", "_law_signs_here", "_law_found", "_law_left", "_law_k", "_law_sort", "_law_many", "_law_kind", "_law_opens", "_law_item", "_law_j"]
theorem sc_Litems : FnScope N_Litems ["_law_box_here", "_law_kinds", "_law_signs_here"] (defScope s_Litems) := ⟨rfl, rfl, rfl, by decide +kernel, rfl, by decide +kernel, by decide +kernel⟩
theorem ok_Litems (T : TX K mg) : Ok P w K mg base CX0 3 "_law_items" ["_law_box_here", "_law_kinds", "_law_signs_here"] (spItems K) := by
  refine Ok.mk' T T.m_Litems T.f_Litems sc_Litems (fun vs H Q E h => ?_) (fun _ _ _ _ _ _ us hl => match us, hl with | [_, _, _], _ => rfl) (fun cdv A outer s H vs Q E hr h => ?_)
  · obtain ⟨b, ka, sa, ks, ss, rfl, _⟩ := h
    rfl
  · obtain ⟨b, ka, sa, ks, ss, rfl, hb, hka, hsa, hk0, hk1, hs0, hs1, q⟩ := h
    have hu := hu_of hr
    have nka : ka ≠ b := hb.at hka
    have nsa : sa ≠ b := hb.at hsa
    refine ⟨_, (pss_cons (ps_par (i := 3) (j := 4) (by rfl) sc_Litems.nd rfl rfl (by decide) rfl rfl (pa_cons (pe_lst pa_nil) (pa_cons (pe_disp (pps_cons pe_str pe_int (pps_cons pe_str pe_int (pps_cons pe_str pe_int (pps_cons pe_str pe_int pps_nil)))) (by rfl) (by rfl) (fun z => by cases z) (by decide)) pa_nil)) (by rfl))
      (pss_cons (ps_for PassesOwn.never rfl (pi_range1 (by rfl) T.n_range (pa_cons (pe_ok (ok_Ltake T) hr (by decide) (by rfl) (pa_cons (pv 0) (pa_cons pe_int pa_nil)) pass0) pa_nil)) (pg_name (i := 5) sc_Litems.nd rfl (.inl rfl))
        (pss_cons (ps_set (i := 6) sc_Litems.nd rfl (Or.inl rfl) (pe_ix ix_list (pe_lst (pa_cons pe_str (pa_cons pe_str (pa_cons pe_str (pa_cons pe_str (pa_cons pe_str (pa_cons pe_str pa_nil))))))) (pe_ok (ok_Ltake T) hr (by decide) (by rfl) (pa_cons (pv 0) (pa_cons pe_int pa_nil)) pass0) (fun _ _ => rfl)))
        (pss_cons (ps_set (i := 7) sc_Litems.nd rfl (Or.inl rfl) (pe_callB call_len_seq (by rfl) T.n_len PySem.boot_len (pa_cons (pe_lc (own := [("_law_item", 10)]) (g := gName 10) (by rfl) sc_Litems.nd (pi_list (pv 3)) (blkOk_by (own := [("_law_item", 10)]) (N := N_Litems) (sc := defScope s_Litems) (by decide +kernel)) (fun _ _ _ _ _ => (pg_name (i := 10) sc_Litems.nd rfl (Or.inl rfl))) (fun _ _ _ _ _ => pts_one (pt_cmpR op_eq (pe_ix (ix_tupK (K := K)) (pv 10) pe_int (fun _ _ => rfl)) pe_str (nomark _))) (fun _ _ _ _ _ => (pv 10))) pa_nil)))
        (pss_cons (ps_par (i := 8) (j := 9) (by rfl) sc_Litems.nd rfl rfl (by decide) rfl rfl (pa_cons (pe_ok (ok_Lone_of T) hr (by decide) (by rfl) (pa_cons (pv 0) (pa_cons (pv 1) pa_nil)) pass0) (pa_cons (pe_callTy call_tuple_of (by rfl) T.n_tuple (by decide +kernel) (pa_cons (pe_lc (own := [("_law_j", 11)]) (g := gName 11) (by rfl) sc_Litems.nd (pi_range1 (by rfl) T.n_range (pa_cons (pv 7) pa_nil)) (blkOk_by (own := [("_law_j", 11)]) (N := N_Litems) (sc := defScope s_Litems) (by decide +kernel)) (fun _ _ _ _ _ => (pg_name (i := 11) sc_Litems.nd rfl (Or.inl rfl))) (fun _ _ _ _ _ => pts_one (pt_cmpR op_gt (pe_ok (ok_Ltake T) hr (by decide) (by rfl) (pa_cons (pv 0) (pa_cons pe_int pa_nil)) pass0) pe_int (nomark _))) (fun _ _ _ _ _ => (pv 11))) pa_nil)) pa_nil)) (by rfl))
        (pss_cons (ps_set (i := 10) sc_Litems.nd rfl (Or.inl rfl) (pe_disp (pps_cons pe_str (pe_tup pa_nil) (pps_cons pe_str (pe_tup (pa_cons (pv 8) pa_nil)) (pps_cons pe_str (pe_tup (pa_cons (pv 8) (pa_cons (pv 9) pa_nil))) (pps_cons pe_str (pe_tup (pa_cons (pe_ok (ok_Lone_of T) hr (by decide) (by rfl) (pa_cons (pv 0) (pa_cons (pv 2) pa_nil)) pass0) pa_nil)) pps_nil)))) (by rfl) (by rfl) (fun z => by cases z) (by decide)))
        (pss_cons (ps_if (pt_cmpR op_gt (pe_dget hu (pv 4) (pv 6) (fun _ _ => rfl)) pe_int (nomark _))
          (pss_one (ps_expr (pe_bm PySem.F.plainAttrs_list PySem.F.slot_list_append PySem.F.type_list_append mt_append (pv 3) (pa_cons (pe_op op_catA (pe_tup (pa_cons (pv 6) pa_nil)) (pe_dget hu (pv 10) (pv 6) (fun _ _ => rfl))) pa_nil))))
          pss_nil)
        (pss_one (ps_dput hu (pv 4) (pv 6) (pe_op op_sub (pe_dget hu (pv 4) (pv 6) (fun _ _ => rfl)) pe_int) rfl))))))))
      (pss_one (ps_ret (pe_callTy call_tuple_of (by rfl) T.n_tuple (by decide +kernel) (pa_cons (pv 3) pa_nil)))))), ?_⟩
    refine ⟨lz 0, fun F nF => ?_⟩
    generalize hE : upd _ F _ = H1
    obtain ⟨s1, e1⟩ := mk hE nF
    refine fun L nL => ⟨upd_same, [(.inr "lit", .int 2), (.inr "name", .int 2), (.inr "term", .int 3), (.inr "sign", .int 3)], rfl, by decide, _, _, rfl, ?_⟩
    rw [upd_upd]
    generalize hE : upd _ L _ = H2
    obtain ⟨s2, e2⟩ := mk hE nL
    replace e2 : H2 L = some (.dK (lefts 2 2 3 3)) := e2
    have sm := s1.trans s2
    have hb2 := hb.same sm
    have nFb : F ≠ b := hb.ne nF
    have nLb : L ≠ b := (hb.same s1).ne nL
    have nLH : H L = none := Same.free s1 nL
    have eF2 := s2 _ _ e1
    refine ⟨_, rfl, b, 8, rfl, hb2, by decide, by decide, fun r H3 r0 r1 hB3 hb3 => ⟨r, rfl, by omega, by omega, ?_⟩⟩
    refine for_it walk_range (fun i σ H' => ∃ y5 y6 y7 y8 y9 y10, σ = [some (.ref b), some (.ref ka), some (.ref sa), some (.ref F), some (.ref L), y5, y6, y7, y8, y9, y10, none] ∧ But b H H' ∧ Bx H' b ∧ ∃ (l : List Item) (vs : List V) (a n t s : Int), H' F = some (.lst vs) ∧ Tds K H' vs (l.map Item.data) ∧ H' L = some (.dK (lefts a n t s)) ∧ itemsOk ks l ∧ nNames l ≤ 2 ∧ (nNames l : Int) + n ≤ 2 ∧ l.length ≤ i)
      ⟨none, none, none, none, none, none, rfl, (But.of sm).trans hB3, hb3, [], [], 2, 2, 3, 3, hB3 _ _ nFb eF2, .nil, hB3 _ _ nLb e2, fun _ _ h => (by simp at h), by decide, by decide, by decide⟩ (fun _ _ _ _ _ => trivial) (fun i x σ Hc Hd hi hP hY => ?_) (fun σ Hc hP => ?_)
    · obtain ⟨y5, y6, y7, y8, y9, y10, rfl, hB, hbc, l, vs, a, n, t, s, eF, tF, eL, hok, hn2, hn, hl⟩ := hP
      obtain ⟨rfl, rfl⟩ := hY
      have hi' : i < 8 := by omega
      have nFL : F ≠ L := ne_of eF eL (by intro z; cases z)
      -- the sort
      refine ⟨lz 6, fun p hp => ?_⟩
      generalize hE : upd _ p _ = H4
      obtain ⟨s4, e4⟩ := mk hE hp
      refine ⟨_, rfl, b, 6, rfl, hbc.same s4, by decide, by decide, fun j H5 j0 j1 hB5 hb5 => ?_⟩
      obtain ⟨j, rfl⟩ : ∃ t : Nat, j = (t : Int) := ⟨j.toNat, by omega⟩
      have hj : j < sorts.length := by show j < 6; omega
      generalize hsr : sorts[j] = sr
      have hsm : sr ∈ sorts := by rw [← hsr]; exact List.getElem_mem hj
      have npb : p ≠ b := hbc.ne hp
      refine ⟨p, sorts.map V.str, j, .str sr, rfl, rfl, .inl (.inl (hB5 _ _ npb e4)), atI_nat (by rw [List.getElem?_map, List.getElem?_eq_getElem hj, hsr]; rfl), ?_⟩
      have hBc5 : But b Hd H5 := (But.of s4).trans hB5
      have eF5 := hBc5 _ _ nFb eF
      have eL5 := hBc5 _ _ nLb eL
      have tF5 := tF.mono (hBc5.tup hbc)
      clear hB5 s4 e4 hp hE hsr
      -- how many names
      have hvl : vs.length = l.length := by rw [tF.len, List.length_map]
      refine ⟨_, rfl, F, rfl, ⟨_, .inl (.inl eF5)⟩, fun D nD => lc_it (walk_list (xs := vs)) (fun i H' => Same H5 H' ∧ ∃ acc, H' D = some (.lst acc) ∧ acc.length = nNames (l.take i)) ⟨same_new nD, [], upd_same, rfl⟩ (fun i H' _ hP => Same.seq hP.1 (.inl (.inl eF5))) (fun i x Ha Hb hi hP hY => ?_) (fun Ha hP => ?_)⟩
      · obtain ⟨sa', acc, ea, la⟩ := hP
        obtain ⟨rfl, hx⟩ := hY
        obtain ⟨d, hd, dx⟩ := (tF5.mono (tk sa')).getV hx
        obtain ⟨it, hit, rfl⟩ := map_at hd
        obtain ⟨a2, xs, rfl, hT, _⟩ := Item.fields dx
        have e0 : nNames (l.take (i + 1)) = nNames (l.take i) + if isName it = true then 1 else 0 := by rw [take_succ' hit, nNames_snoc]
        refine ⟨rfl, _, rfl, a2, _, 0, .str it.tag, rfl, rfl, hT.sq, at_of (j := 0) rfl rfl, rfl, _, rfl, ?_⟩
        rw [decV, tag_name]
        cases hN : isName it with
        | true =>
          refine ifT rfl ⟨_, rfl, acc, ea, ?_, smut sa' nD, _, upd_same, ?_⟩
          · have := nNames_take_le l i
            exact lzl (by omega)
          · rw [List.length_append, la, e0, hN]
            rfl
        | false =>
          refine ifF rfl ⟨sa', acc, ea, ?_⟩
          rw [la, e0, hN]
          rfl
      obtain ⟨s6, acc, e6, l6⟩ := hP
      rw [show l.take vs.length = l from List.take_of_length_le (by omega)] at l6
      refine ⟨D, acc, rfl, .inl (.inl (.inl e6)), ?_⟩
      rw [l6]
      clear e6 l6 acc
      -- the kind
      have hb6 := hb5.same s6
      have hB6 : But b H Ha := (hB.trans hBc5).trans (But.of s6)
      refine ⟨_, rfl, _, rfl, b, .ref ka, _, rfl, hb6, .inl ⟨ka, rfl, nka, hB6 _ _ nka hka⟩, by rw [List.length_map]; omega, by rw [List.length_map]; omega, fun x H7 hx hB7 hb7 => ?_⟩
      obtain ⟨k, hk, rfl⟩ := List.mem_map.mp hx
      -- the opens
      refine ⟨_, rfl, (nNames l : Int), rfl, by omega, by omega, fun D2 nD2 => lc_it walk_range (fun i H' => But b H7 H' ∧ Bx H' b ∧ ∃ os : List Nat, H' D2 = some (.lst (os.map fun j => .int (j : Nat))) ∧ (∀ j ∈ os, j < i) ∧ os.length ≤ i) ⟨But.new nD2, hb7.keep (hb7.ne nD2).symm, [], upd_same, (fun _ h => nomatch h), Nat.zero_le _⟩ (fun _ _ _ _ => trivial) (fun i x Ha' Hb hi hP hY => ?_) (fun Hb hP => ?_)⟩
      · obtain ⟨hBa, hba, os, ea, ho, hol⟩ := hP
        obtain ⟨rfl, rfl⟩ := hY
        have nDb := hb7.ne nD2
        refine ⟨rfl, _, rfl, b, 4, rfl, hba, by decide, by decide, fun r H8 r0 r1 hB8 hb8 => ⟨_, _, rfl, rfl, _, rfl, ite2 (fun _ => ?_) (fun _ => ?_)⟩⟩
        · refine ⟨_, rfl, _, hB8 _ _ nDb ea, ?_, (hBa.trans hB8).mut nD2, hb8.keep nDb.symm, os ++ [i], ?_, fun j hj => ?_, ?_⟩
          · rw [List.length_map]
            exact lzl (by omega)
          · rw [upd_same, List.map_append]
            show some (HO.lst (_ ++ [V.int (0 + (i : Int))])) = _
            rw [Int.zero_add]
            rfl
          · rcases List.mem_append.mp hj with h | h
            · exact Nat.lt_succ_of_lt (ho j h)
            · rw [List.mem_singleton] at h
              omega
          · rw [List.length_append]
            exact Nat.succ_le_succ hol
        · exact ⟨hBa.trans hB8, hb8, os, hB8 _ _ nDb ea, fun j hj => Nat.lt_succ_of_lt (ho j hj), Nat.le_succ_of_le hol⟩
      obtain ⟨hB8, hb8, os, e8, ho, hol⟩ := hP
      refine ⟨D2, _, rfl, .inl ⟨.inl (.inl e8), fun op hop => ⟨_, _, rfl, ?_⟩⟩⟩
      generalize hE : upd _ op _ = H9
      obtain ⟨s9, e9⟩ := mk hE hop
      have hb9 := hb8.same s9
      have hB9 : But b Ha H9 := (hB7.trans hB8).trans (But.of s9)
      have dO : Td K H9 (.ref op) (.tuple (os.map fun j => .int (j : Nat))) := by
        refine .at e9 ?_
        have : ∀ os : List Nat, Tds K H9 (os.map fun j => .int (j : Nat)) (os.map fun j => .int (j : Nat)) := by
          intro os
          induction os with
          | nil => exact .nil
          | cons j r ih => exact .cons (.int _) ih
        exact this os
      clear e8 hE hop e9
      -- the item of each sort
      refine fun I nI => ?_
      have nIb : I ≠ b := hb9.ne nI
      generalize hE : upd _ I _ = H10
      obtain ⟨s10, e10⟩ := mk hE nI
      refine ⟨lz 0, fun p0 h0 => ?_⟩
      generalize hE : upd _ p0 _ = H11
      obtain ⟨s11, e11⟩ := mk hE h0
      refine ⟨_, rfl, lz 1, fun p1 h1 => ?_⟩
      generalize hE : upd _ p1 _ = H12
      obtain ⟨s12, e12⟩ := mk hE h1
      refine ⟨_, rfl, _, rfl, lz 2, fun p2 h2 => ?_⟩
      generalize hE : upd _ p2 _ = H13
      obtain ⟨s13, e13⟩ := mk hE h2
      have hb13 := (((hb9.same s10).same s11).same s12).same s13
      have s913 := s10.trans (s11.trans (s12.trans s13))
      have hB13 : But b H H13 := (hB6.trans hB9).trans (But.of s913)
      refine ⟨_, rfl, _, rfl, b, .ref sa, _, rfl, hb13, .inl ⟨sa, rfl, nsa, hB13 _ _ nsa hsa⟩, by rw [List.length_map]; omega, by rw [List.length_map]; omega, fun x H14 hx hB14 hb14 => ?_⟩
      obtain ⟨sg, hsg, rfl⟩ := List.mem_map.mp hx
      refine ⟨lz 1, fun p3 h3 => ?_⟩
      generalize hE : upd _ p3 _ = H15
      obtain ⟨s15, e15⟩ := mk hE h3
      have hB1315 : But b H13 H15 := hB14.trans (But.of s15)
      have hb15 := hb14.same s15
      have k1315 : TupK H13 H15 := hB1315.tup hb13
      have eI15 : H15 I = some (.dK []) := hB1315 _ _ nIb ((s11.trans (s12.trans s13)) _ _ e10)
      refine ⟨eI15, kit4 p0 p1 p2 p3, rfl, (by show 4 ≤ 15; decide), ?_⟩
      generalize hkI : mergeK [] (kit4 p0 p1 p2 p3) = kI
      replace hkI : kI = kit4 p0 p1 p2 p3 := by rw [← hkI]; rfl
      generalize hE : upd H15 I _ = H16
      have e16 : H16 I = some (.dK kI) := by rw [← hE]; exact upd_same
      have k1516 : TupK H15 H16 := by
        rw [← hE]
        exact TupK.put (TupK.refl _) eI15 rfl
      have hb16 : Bx H16 b := by
        rw [← hE]
        exact hb15.keep nIb.symm
      have nIH : H I = none := (hB6.trans hB9).free nIb nI
      have hB16 : But b H H16 := by
        rw [← hE]
        exact (hB13.trans hB1315).mut nIH
      have oth : ∀ c o, c ≠ b → H9 c = some o → H16 c = some o := fun c o hc e => by
        rw [← hE, upd_ne (ne_of_none e nI)]
        exact (s913.trans (Same.refl _) |> But.of (b := b)).trans hB1315 c o hc e
      have hB5a : But b H5 H9 := (But.of s6).trans hB9
      have eF16 := oth _ _ nFb (hB5a _ _ nFb eF5)
      have eL16 := oth _ _ nLb (hB5a _ _ nLb eL5)
      have t16 : Tds K H16 vs (l.map Item.data) := tF5.mono ((hB5a.tup hb5).trans ((tk s913).trans (k1315.trans k1516)))
      have dO16 : Td K H16 (.ref op) (.tuple (os.map fun j => .int (j : Nat))) := dO.mono ((tk s913).trans (k1315.trans k1516))
      have f0 : H16 p0 = some (.tup []) := (k1315.trans k1516) _ _ rfl ((s12.trans s13) _ _ e11)
      have f1 : H16 p1 = some (.tup [.str k]) := (k1315.trans k1516) _ _ rfl (s13 _ _ e12)
      have f2 : H16 p2 = some (.tup [.str k, .ref op]) := (k1315.trans k1516) _ _ rfl e13
      have f3 : H16 p3 = some (.tup [.str sg]) := k1516 _ _ rfl e15
      have hcase : ∃ (c : Int) (pp : Addr) (ys : List V) (it : Item) (a' n' t' s' : Int), valV (lefts a n t s) (.inr sr) = some (.int c) ∧ valV kI (.inr sr) = some (.ref pp) ∧ H16 pp = some (.tup ys) ∧ it.tag = sr ∧ Tds K H16 ys it.rest ∧ itemOk ks (nNames l) it ∧
          putK (lefts a n t s) (.inr sr) (.int (c - 1)) = lefts a' n' t' s' ∧ (isName it = true → n' = n - 1 ∧ c = n) ∧ (isName it = false → n' = n) := by
        rcases sorts_mem hsm with rfl | rfl | rfl | rfl
        · exact ⟨a, p0, _, .lit, a - 1, n, t, s, rfl, by rw [hkI]; rfl, f0, rfl, .nil, trivial, rfl, (fun h => nomatch h), fun _ => rfl⟩
        · exact ⟨n, p1, _, .name k, a, n - 1, t, s, rfl, by rw [hkI]; rfl, f1, rfl, .cons (.str _) .nil, hk, rfl, fun _ => ⟨rfl, rfl⟩, fun h => nomatch h⟩
        · exact ⟨t, p2, _, .term k os, a, n, t - 1, s, rfl, by rw [hkI]; rfl, f2, rfl, .cons (.str _) (.cons dO16 .nil), ⟨hk, by simpa using ho, by omega⟩, rfl, (fun h => nomatch h), fun _ => rfl⟩
        · exact ⟨s, p3, _, .sign sg, a, n, t, s - 1, rfl, by rw [hkI]; rfl, f3, rfl, .cons (.str _) .nil, trivial, rfl, (fun h => nomatch h), fun _ => rfl⟩
      obtain ⟨c, pp, ys, it, a', n', t', s', hv, hvI, hpp, htag, hys, hio, hput, hin, hnin⟩ := hcase
      have gL : ∀ {H' : Hp}, H' L = some (.dK (lefts a n t s)) → DGet H' L (.str sr) (some (.int c)) := fun {H'} e => by
        rw [← hv]
        exact DGet.k (k := .inr sr) e
      have gI : ∀ {H' : Hp}, H' I = some (.dK kI) → DGet H' I (.str sr) (some (.ref pp)) := fun {H'} e => by
        rw [← hvI]
        exact DGet.k (k := .inr sr) e
      refine ⟨_, rfl, _, rfl, L, _, rfl, gL eL16, _, _, rfl, rfl, _, rfl, ite2 (fun hc => ?_) (fun hc => ?_)⟩
      · have hc0 : 0 < c := of_decide_eq_true hc
        refine ⟨_, rfl, .inl ⟨rfl, _, .inl (.inl eF16)⟩, _, rfl, lz 1, fun pq hq => ?_⟩
        generalize hE : upd _ pq _ = H17
        obtain ⟨s17, e17⟩ := mk hE hq
        have hn1 : nNames (l ++ [it]) ≤ 2 ∧ (nNames (l ++ [it]) : Int) + n' ≤ 2 := by
          rw [nNames_snoc]
          cases hN : isName it with
          | true =>
            obtain ⟨h1, h2⟩ := hin hN
            rw [if_pos rfl]
            omega
          | false =>
            have h1 := hnin hN
            rw [if_neg (by decide)]
            omega
        have app : ∀ (v : V) (H18 : Hp), Same H17 H18 → Td K H18 v it.data → ∃ l_1 xs y, V.ref F = .ref l_1 ∧ [v] = [y] ∧ H18 l_1 = some (.lst xs) ∧ xs.length < sizeLine ∧ (∀ H19, H19 = upd H18 l_1 (.lst (xs ++ [y])) → ∃ (l2 : List Item) (vs2 : List V), H19 F = some (.lst vs2) ∧ Tds K H19 vs2 (l2.map Item.data) ∧ itemsOk ks l2 ∧ nNames l2 ≤ 2 ∧ (nNames l2 : Int) + n' ≤ 2 ∧ l2.length ≤ i + 1 ∧ But b H H19 ∧ Bx H19 b ∧ H19 L = some (.dK (lefts a n t s))) := by
          intro v H18 s18 dv
          have eF18 := (s17.trans s18) _ _ eF16
          refine ⟨F, vs, v, rfl, rfl, eF18, lzl (by omega), fun H19 e19 => ⟨l ++ [it], vs ++ [v], ?_, ?_, itemsOk_snoc hok hio, hn1.1, hn1.2, ?_, ?_, ?_, ?_⟩⟩
          · rw [e19]; exact upd_same
          · rw [e19, List.map_append]
            exact Tds.mono (TupK.put (TupK.refl _) eF18 rfl) ((t16.mono (tk (s17.trans s18))).snoc dv)
          · rw [List.length_append]; exact Nat.succ_le_succ hl
          · rw [e19]; exact (hB16.trans (But.of (s17.trans s18))).mut nF
          · rw [e19]; exact (hb16.same (s17.trans s18)).keep nFb.symm
          · rw [e19, upd_ne nFL.symm]; exact (s17.trans s18) _ _ eL16
        have fin : ∀ {H19 : Hp} {l2 : List Item} {vs2 : List V}, H19 F = some (.lst vs2) → Tds K H19 vs2 (l2.map Item.data) → itemsOk ks l2 → nNames l2 ≤ 2 → (nNames l2 : Int) + n' ≤ 2 → l2.length ≤ i + 1 → But b H H19 → Bx H19 b → H19 L = some (.dK (lefts a n t s)) → True := fun _ _ _ _ _ _ _ _ _ => trivial
        refine ⟨_, rfl, _, rfl, I, _, rfl, gI (s17 _ _ e16), pq, pp, _, ys, rfl, rfl, .inl (.inl e17), .inl (.inl (s17 _ _ hpp)), ?_, (fun h => nomatch h), fun _ hy => ?_, fun _ hy pr hpr => ?_⟩
        · have := hys.len
          have h5 : it.rest.length ≤ 2 := by cases it <;> simp [Item.rest]
          exact lz _ (by show 1 + ys.length ≤ 100000; omega)
        · subst hy
          have hr0 : it.rest = [] := List.eq_nil_of_length_eq_zero hys.len.symm
          obtain ⟨l1, xs1, y1, g1, g2, g3, g4, g5⟩ := app (.ref pq) H17 (Same.refl _) (by rw [Item.data_eq, hr0, htag]; exact .at e17 (.cons (.str _) .nil))
          refine ⟨l1, xs1, y1, g1, g2, g3, g4, ?_⟩
          generalize hE : upd H17 l1 _ = H19
          obtain ⟨l2, vs2, k1, k2, k3, k4, k5, k6, k7, k8, k9⟩ := g5 H19 hE.symm
          refine ⟨_, rfl, _, rfl, L, _, rfl, gL k9, _, _, rfl, rfl, _, rfl, _, rfl, L, _, rfl, DPut.k (k := .inr sr) k9 (lzl (by show 4 < 100000; decide)), _, _, _, _, _, _, rfl, k7.mut nLH, k8.keep nLb.symm, l2, vs2, a', n', t', s', ?_, ?_, ?_, k3, k4, k5, k6⟩
          · rw [upd_ne nFL]; exact k1
          · exact Tds.mono (TupK.put (TupK.refl _) k9 rfl) k2
          · rw [upd_same, hput]
        · generalize hE : upd _ pr _ = H18
          obtain ⟨s18, e18⟩ := mk hE hpr
          obtain ⟨l1, xs1, y1, g1, g2, g3, g4, g5⟩ := app (.ref pr) H18 s18 (by rw [Item.data_eq, htag]; exact .at e18 (.cons (.str _) (hys.mono (tk (s17.trans s18)))))
          refine ⟨l1, xs1, y1, g1, g2, g3, g4, ?_⟩
          generalize hE : upd H18 l1 _ = H19
          obtain ⟨l2, vs2, k1, k2, k3, k4, k5, k6, k7, k8, k9⟩ := g5 H19 hE.symm
          refine ⟨_, rfl, _, rfl, L, _, rfl, gL k9, _, _, rfl, rfl, _, rfl, _, rfl, L, _, rfl, DPut.k (k := .inr sr) k9 (lzl (by show 4 < 100000; decide)), _, _, _, _, _, _, rfl, k7.mut nLH, k8.keep nLb.symm, l2, vs2, a', n', t', s', ?_, ?_, ?_, k3, k4, k5, k6⟩
          · rw [upd_ne nFL]; exact k1
          · exact Tds.mono (TupK.put (TupK.refl _) k9 rfl) k2
          · rw [upd_same, hput]
      · have hn' : (nNames l : Int) + n' ≤ 2 := by
          cases hN : isName it with
          | true =>
            obtain ⟨h1, h2⟩ := hin hN
            omega
          | false =>
            have h1 := hnin hN
            omega
        refine ⟨_, rfl, _, rfl, L, _, rfl, gL eL16, _, _, rfl, rfl, _, rfl, _, rfl, L, _, rfl, DPut.k (k := .inr sr) eL16 (lzl (by show 4 < 100000; decide)), _, _, _, _, _, _, rfl, hB16.mut nLH, hb16.keep nLb.symm, l, vs, a', n', t', s', ?_, ?_, ?_, hok, hn2, hn', by omega⟩
        · rw [upd_ne nFL]; exact eF16
        · exact Tds.mono (TupK.put (TupK.refl _) eL16 rfl) t16
        · rw [upd_same, hput]
    · obtain ⟨y5, y6, y7, y8, y9, y10, rfl, hB, hbc, l, vs, a, n, t, s, eF, tF, eL, hok, hn2, hn, hl⟩ := hP
      refine ⟨_, rfl, F, vs, rfl, .inl ⟨.inl (.inl eF), fun p hp => ?_⟩⟩
      generalize hE : upd _ p _ = H4
      obtain ⟨s4, e4⟩ := mk hE hp
      exact q _ _ l (hB.trans (But.of s4)) (hbc.same s4) (.at e4 (tF.mono (tk s4))) hok hn2 (by omega)
end K27

set_option maxHeartbeats 4000000
namespace K27
open PySem PySem.Spec PyProof.Rows L2
/-! ### rules -/
section
variable {X : Cx} {K : PySem.W.Frag} {tg : Expr}
/-- t + u, the answer by what it holds -/
def rCatU (K : PySem.W.Frag) : R2 := fun x y H Q => ∃ a b xs ys, x = .ref a ∧ y = .ref b ∧ Tu K H a xs ∧ Tu K H b ys ∧ xs.length + ys.length ≤ 100000 ∧ ∀ p H', Same H H' → Tu K H' p (xs ++ ys) → Q (.ref p) H'
theorem op_catU (h : X.K = K := by rfl) : OpR X (binaryOp .Add) (rCatU K) := by
  subst h
  intro pins s σ H x y v u Q I rx ry q
  obtain ⟨a, b, xs, ys, rfl, rfl, ha, hb, hz, q⟩ := q
  refine op_catA pins s σ H _ _ v u Q I rx ry ⟨a, b, xs, ys, rfl, rfl, ha.sq, hb.sq, lz _ hz, fun e => ?_, fun _ e => ?_, fun _ _ p hp => ?_⟩
  · subst e
    exact q b H (Same.refl H) hb
  · subst e
    exact q a H (Same.refl H) (by rw [List.append_nil]; exact ha)
  · exact q p _ (same_new hp) (.inl upd_same)
/-- tuple(x) of a list or tuple, the answer by what it holds -/
def rTupU (K : PySem.W.Frag) : List V → Hp → VK → Prop := fun vs H Q => ∃ p ys, vs = [.ref p] ∧ (H p = some (.lst ys) ∨ Tu K H p ys) ∧ ∀ p' H', Same H H' → Tu K H' p' ys → Q (.ref p') H'
theorem call_tupU (h : X.K = K := by rfl) : CallR X (.type "tuple") (rTupU K) := by
  subst h
  intro pins s σ H xs us Q I r q
  obtain ⟨p, ys, rfl, hq, q⟩ := q
  refine call_tuple_of pins s σ H _ us Q I r ⟨p, ys, rfl, ?_⟩
  rcases hq with hq | hq
  · exact .inl ⟨.inl (.inl hq), fun l hl => q l _ (same_new hl) (.inl upd_same)⟩
  · exact .inr ⟨hq.sq, q p H (Same.refl H) hq⟩
theorem pi_listK {l : Expr} {tl : TE} (hl : PE X l tl) (h : X.K = K := by rfl) : PI X tg l (iList K tl) := by
  subst h
  exact pi_list hl
theorem pi_tupK {l : Expr} {tl : TE} (hl : PE X l tl) (h : X.K = K := by rfl) : PI X tg l (iTup K tl) := by
  subst h
  exact pi_tup hl
end
/-! ### a dict of names and kinds -/
abbrev kvOf (q : Str × Str) : Key × V := (.inr q.1, .str q.2)
structure KvE (kvs : List (Key × V)) (r : Sg) : Prop where
  nd : (kvs.map (·.1)).Nodup
  shape : ∀ p ∈ kvs, ∃ x k, p = (Sum.inr x, V.str k)
  val : ∀ x, valV kvs (.inr x) = (r x).map V.str
theorem KvE.nil : KvE [] fun _ => none := ⟨List.nodup_nil, fun _ h => (by cases h), fun _ => rfl⟩
theorem KvE.put {kvs : List (Key × V)} {r : Sg} (h : KvE kvs r) (x k : Str) : KvE (putK kvs (.inr x) (.str k)) (r.up x k) := by
  refine ⟨?_, fun p hp => ?_, fun y => ?_⟩
  · unfold putK
    split
    · have e : (kvs.map fun kv => if kv.1 = (Sum.inr x : Key) then (kv.1, V.str k) else kv).map (·.1) = kvs.map (·.1) := by
        rw [List.map_map]
        refine List.map_congr_left fun p _ => ?_
        show (if p.1 = (Sum.inr x : Key) then (p.1, V.str k) else p).1 = p.1
        split <;> rfl
      rw [e]
      exact h.nd
    · rename_i hn
      rw [List.map_append, List.nodup_append]
      refine ⟨h.nd, by simp, fun a ha b hb e => hn ?_⟩
      obtain ⟨p, hp, rfl⟩ := List.mem_map.mp ha
      have : b = Sum.inr x := by simpa using hb
      exact List.any_eq_true.mpr ⟨p, hp, decide_eq_true (e.trans this)⟩
  · unfold putK at hp
    split at hp
    · obtain ⟨q, hq, rfl⟩ := List.mem_map.mp hp
      obtain ⟨y, k', rfl⟩ := h.shape q hq
      by_cases e : (Sum.inr y : Key) = .inr x
      · rw [if_pos e]
        exact ⟨y, k, rfl⟩
      · rw [if_neg e]
        exact ⟨y, k', rfl⟩
    · rcases List.mem_append.mp hp with hp | hp
      · exact h.shape p hp
      · rw [List.mem_singleton] at hp
        exact ⟨x, k, hp⟩
  · rw [valV_put, h.val]
    show _ = ((if y = x then some k else r y).map V.str)
    by_cases e : y = x
    · rw [if_pos e, if_pos (by rw [e])]
      rfl
    · rw [if_neg e, if_neg fun z => e (Sum.inr.inj z)]
theorem KvE.merge {kvs : List (Key × V)} {r : Sg} (h : KvE kvs r) : ∀ ps : List (Str × Str), KvE (mergeK kvs (ps.map kvOf)) (ps.foldl (fun r p => r.up p.1 p.2) r) := by
  intro ps
  induction ps generalizing kvs r with
  | nil => exact h
  | cons p ps ih => exact ih (h.put p.1 p.2)
theorem KvE.dict (ps : List (Str × Str)) : KvE (mergeK [] (ps.map kvOf)) (envL ps) := KvE.nil.merge ps
theorem KvE.at {kvs : List (Key × V)} {r : Sg} (h : KvE kvs r) {i : Nat} {k : Key} {v : V} (e : kvs[i]? = some (k, v)) : ∃ x y, k = .inr x ∧ r x = some y ∧ valV kvs (.inr x) = some (.str y) := by
  obtain ⟨x, k', e2⟩ := h.shape _ (List.mem_of_getElem? e)
  cases e2
  have h1 : (kvs.any fun kv => decide (kv.1 = (Sum.inr x : Key))) = true := List.any_eq_true.mpr ⟨_, List.mem_of_getElem? e, decide_eq_true rfl⟩
  rw [valV_any, h.val, Option.isSome_map] at h1
  obtain ⟨y, hy⟩ := Option.isSome_iff_exists.mp h1
  exact ⟨x, y, rfl, hy, by rw [h.val, hy]; rfl⟩
theorem pairs_at {K : PySem.W.Frag} {H : Hp} : ∀ {ps : List (Str × Str)} {vs : List V}, Tds K H vs (ps.map pairD) → ∃ as : List Addr, vs = as.map V.ref ∧ Paired (fun a kv => SqT K H a [kV kv.1, kv.2]) as (ps.map kvOf)
  | [], vs, h => by
    cases h.nil_inv
    exact ⟨[], rfl, .nil⟩
  | p :: ps, vs, h => by
    obtain ⟨v, r, rfl, h1, h2⟩ := h.cons_inv
    obtain ⟨as, rfl, hp⟩ := pairs_at h2
    obtain ⟨a, v1, v2, rfl, hT, k1, k2⟩ := Td.i2 h1
    obtain rfl := k1.strI
    obtain rfl := k2.strI
    exact ⟨a :: as, rfl, .cons hT.sq hp⟩
/-! ### what stands apart from the box -/
theorem Bx.atR {H : Hp} {b p : Addr} {xs : List V} (h : Bx H b) (e : H p = some (.lst xs)) (hx : ∀ x ∈ xs, ∃ a, x = .ref a) : p ≠ b := by
  intro z
  obtain ⟨i, j, k, h⟩ := h
  rw [z, h] at e
  cases e
  obtain ⟨a, e⟩ := hx (.int i) List.mem_cons_self
  cases e
theorem Tds.refs {K : PySem.W.Frag} {H : Hp} {vs : List V} {ds : List PyData} (h : Tds K H vs ds) (hd : ∀ d ∈ ds, ∃ l, d = .tuple l) : ∀ x ∈ vs, ∃ a, x = .ref a := by
  induction ds generalizing vs with
  | nil =>
    cases h.nil_inv
    intro x hx
    cases hx
  | cons d ds ih =>
    obtain ⟨v, r, rfl, h1, h2⟩ := h.cons_inv
    intro x hx
    rcases List.mem_cons.mp hx with rfl | hx
    · obtain ⟨l, rfl⟩ := hd d List.mem_cons_self
      obtain ⟨a, _, e, _⟩ := h1.inv
      exact ⟨a, e⟩
    · exact ih h2 (fun d hd' => hd d (List.mem_cons_of_mem _ hd')) x hx
/-! ### a right tongue -/
def Tongue.ks (T : Tongue) : List Str := T.kinds.map (·.1)
structure TongOk (T : Tongue) : Prop where
  heads : (T.forms.map fun f => f.1.head).Nodup
  form : ∀ f ∈ T.forms, f.1.kind ∈ T.ks ∧ itemsOk T.ks f.1.items ∧ nNames f.1.items ≤ 2 ∧ f.1.items.length ≤ 7
  first : ∀ k ∈ T.ks, ∃ f, T.forms.find? (fun f => decide (f.1.kind = k)) = some f ∧ ∀ it ∈ f.1.items, it = .lit
  flen : T.forms.length ≤ 100
  klen : T.kinds.length ≤ 100
  kne : 0 < T.kinds.length
  fltl : T.faults.length ≤ 100
structure HdsOk (T : Tongue) (hs : List Hd) : Prop where
  names : (hs.map (·.1)).Nodup
  kinds : ∀ h ∈ hs, ∀ k ∈ h.2.1, k ∈ T.ks
  len : hs.length ≤ 500
  args : ∀ h ∈ hs, h.2.1.length ≤ 7
def langT (T : Tongue) (hs : List Hd) : Lang := ⟨T.name, T.forms.map (·.1), hs⟩
theorem find_nodup {α : Type} {f : α → Str} : ∀ {l : List α} {a : α}, (l.map f).Nodup → a ∈ l → l.find? (fun x => decide (f x = f a)) = some a
  | [], a, _, h => by cases h
  | x :: l, a, hn, h => by
    rw [List.map_cons, List.nodup_cons] at hn
    rw [List.find?_cons]
    rcases List.mem_cons.mp h with rfl | h
    · simp
    · have hne : f x ≠ f a := fun e => hn.1 (List.mem_map.mpr ⟨a, h, e.symm⟩)
      rw [decide_eq_false hne]
      exact find_nodup hn.2 h
theorem lang_form {T : Tongue} {hs : List Hd} (ok : TongOk T) {f : Form × PyData} (h : f ∈ T.forms) : (langT T hs).form f.1.head = some f.1 := by
  unfold langT Lang.form
  refine find_nodup (f := fun g : Form => g.head) ?_ (List.mem_map.mpr ⟨f, h, rfl⟩)
  rw [List.map_map]
  exact ok.heads
theorem lang_head {T : Tongue} {hs : List Hd} (ok : HdsOk T hs) {h : Hd} (hm : h ∈ hs) : (langT T hs).head h.1 = some h := by
  unfold langT Lang.head
  exact find_nodup (f := fun g : Hd => g.1) ok.names hm
/-! ### what may be drawn -/
abbrev Opt := (Form × PyData) ⊕ Hd
def optD : Opt → PyData
  | .inl f => formD f
  | .inr h => headD h
def optK : Opt → Str
  | .inl f => f.1.kind
  | .inr h => h.2.2
def opts (T : Tongue) (hs : List Hd) : List Opt := T.forms.map .inl ++ hs.map .inr
theorem opts_D (T : Tongue) (hs : List Hd) : (opts T hs).map optD = T.forms.map formD ++ hs.map headD := by
  unfold opts
  rw [List.map_append, List.map_map, List.map_map]
  rfl
theorem opts_first {T : Tongue} {hs : List Hd} (ok : TongOk T) {k : Str} (hk : k ∈ T.ks) : ∃ f, ((opts T hs).filter fun o => decide (optK o = k))[0]? = some (.inl f) ∧ f ∈ T.forms ∧ f.1.kind = k ∧ ∀ it ∈ f.1.items, it = .lit := by
  obtain ⟨f, hf, hl⟩ := ok.first k hk
  have hm := List.mem_of_find?_eq_some hf
  have hkd := List.find?_some hf
  refine ⟨f, ?_, hm, by simpa using hkd, hl⟩
  rw [← List.head?_eq_getElem?, List.head?_filter]
  unfold opts
  rw [List.find?_append, List.find?_map]
  show ((Option.map Sum.inl (T.forms.find? fun f => decide (f.1.kind = k))).or _) = _
  rw [hf]
  rfl
theorem opt_fields {K : PySem.W.Frag} {H : Hp} {v : V} {o : Opt} (h : Td K H v (optD o)) : ∃ a xs, v = .ref a ∧ Tu K H a xs ∧ xs[2]? = some (.str (optK o)) := by
  cases o with
  | inl f =>
    obtain ⟨a, v1, v2, v3, v4, rfl, h, h1, h2, h3, h4⟩ := Td.i4 h
    obtain rfl := h3.strI
    exact ⟨a, _, rfl, h, rfl⟩
  | inr f =>
    obtain ⟨a, v1, v2, v3, rfl, h, h1, h2, h3⟩ := Td.i3 h
    obtain rfl := h3.strI
    exact ⟨a, _, rfl, h, rfl⟩
end K27

set_option maxHeartbeats 8000000
namespace K27
open PySem PySem.Spec PyProof.Rows L2
theorem nm_strOk {x : Str} (h : isNm x = true) : PyData.strOk x = true := by
  unfold PyData.strOk
  rw [Array.all_eq_true']
  intro c hc
  have := isNm_low h c (Array.mem_toList_iff.mpr hc)
  exact decide_eq_true (by omega)
theorem strs_shaped (xs : List Str) (hx : ∀ x ∈ xs, isNm x = true) : SeqAt.shaped (.list (xs.map .str)) = true := by
  have h1 : ∀ xs : List Str, (∀ x ∈ xs, isNm x = true) → PyData.canLayAll0 (xs.map .str) = true ∧ PyData.depthAll (xs.map PyData.str) ≤ 1 := by
    intro xs
    induction xs with
    | nil => exact fun _ => ⟨rfl, by decide⟩
    | cons x r ih =>
      intro h
      replace ih := ih fun y hy => h y (List.mem_cons_of_mem _ hy)
      refine ⟨?_, ?_⟩
      · rw [List.map_cons]
        simp only [PyData.canLayAll0, ih.1, Bool.and_true, PyData.canLay0]
        exact nm_strOk (h x List.mem_cons_self)
      · rw [List.map_cons]
        simp only [PyData.depthAll, PyData.depth]
        omega
  obtain ⟨h2, h3⟩ := h1 xs hx
  unfold SeqAt.shaped
  have h4 : (PyData.list (xs.map .str)).canLay0 = true := by simp only [PyData.canLay0, h2]
  have h5 : (PyData.list (xs.map .str)).depth ≤ 64 := by
    simp only [PyData.depth]
    omega
  rw [h4, decide_eq_true h5]
  rfl
theorem strs_eqv (xs : List Str) : PyData.eqv (.list (xs.map .str)) (.list []) = xs.isEmpty := by
  cases xs <;> simp [PyData.eqv, PyData.eqvAll]
theorem strs_dp {K : PySem.W.Frag} {H : Hp} : ∀ xs : List Str, DpAll K H (xs.map V.str) (xs.map PyData.str)
  | [] => .nil
  | x :: r => .cons (.str x) (strs_dp r)
variable {P : Program} {w : World} {K : PySem.W.Frag} {mg : Str → Option Value} {base : Heap}
/-- what stands ready for a draw -/
structure Dr (K : PySem.W.Frag) (n : Nat) (H : Hp) (b sc sg ca na : Addr) (tv : V) (room : Int) (kind : Str) (T : Tongue) (hs : List Hd) (cs ss : List V) (nm : List Str) (ps : List (Str × Str)) : Prop where
  bx : Bx H b
  r0 : 0 ≤ room
  r1 : room < 2 ^ (n + 1)
  sc : Tu K H sc [tv, .ref ca, .ref na]
  tv : Td K H tv T.data
  ca : H ca = some (.lst cs)
  cs : Tds K H cs (hs.map headD)
  na : H na = some (.lst (nm.map .str))
  sg : H sg = some (.lst ss)
  ss : Tds K H ss (ps.map pairD)
  ok : TongOk T
  hok : HdsOk T hs
  kd : kind ∈ T.ks
  nd : nm.Nodup
  nmn : ∀ x ∈ nm, isNm x = true
  nml : 3 ≤ nm.length ∨ room < 2
  nml2 : nm.length ≤ 100
  psl : ps.length + 8 * n ≤ 100
  psn : ∀ p ∈ ps, isNm p.1 = true
theorem inV_strs (x : Str) (l : List Str) : inV (.str x) (l.map V.str) = decide (x ∈ l) := by
  unfold inV
  induction l with
  | nil => rfl
  | cons y r ih =>
    rw [List.map_cons, List.any_cons, ih]
    show ((y == x) || decide (x ∈ r)) = _
    by_cases e : y = x
    · subst e
      simp
    · have e' : ¬ x = y := fun z => e z.symm
      rw [beq_eq_false_iff_ne.mpr e, Bool.false_or]
      simp [e']
theorem flat_strs (l : List Str) : (l.map V.str).all flatV = true := by
  rw [List.all_map]
  exact List.all_eq_true.mpr fun _ _ => rfl
theorem filter_left {l m : List Str} (h : l.Nodup) : l.length ≤ (l.filter fun x => decide (x ∉ m)).length + m.length := by
  induction m with
  | nil =>
    have : (l.filter fun x => decide (x ∉ ([] : List Str))) = l := List.filter_eq_self.mpr fun x _ => by simp
    rw [this]
    exact Nat.le_add_right _ _
  | cons a m ih =>
    have e : (l.filter fun x => decide (x ∉ a :: m)) = (l.filter fun x => decide (x ∉ m)).filter fun x => decide (x ≠ a) := by
      rw [List.filter_filter]
      refine List.filter_congr fun x _ => ?_
      by_cases h1 : x = a <;> by_cases h2 : x ∈ m <;> simp [h1, h2]
    have key : ∀ q : List Str, q.Nodup → q.length ≤ (q.filter fun x => decide (x ≠ a)).length + 1 := by
      intro q
      induction q with
      | nil => intro _; exact Nat.zero_le _
      | cons y r ih2 =>
        intro hn
        rw [List.nodup_cons] at hn
        by_cases hy : y = a
        · have : (r.filter fun x => decide (x ≠ a)) = r := List.filter_eq_self.mpr fun x hx => by
            refine decide_eq_true fun e => hn.1 ?_
            rw [hy, ← e]
            exact hx
          rw [List.filter_cons_of_neg (by simp [hy]), this]
          exact Nat.le_refl _
        · rw [List.filter_cons_of_pos (by simp [hy])]
          have := ih2 hn.2
          simp only [List.length_cons]
          omega
    rw [e]
    have := key _ (h.filter fun x => decide (x ∉ m))
    simp only [List.length_cons]
    omega
theorem pick_snoc {ns : List (Str × Str)} {os : List Nat} {i j : Nat} {p : Str × Str} (h : os[i]? = some j) (h2 : ns[j]? = some p) : pick ns (os.take (i + 1)) = pick ns (os.take i) ++ [p] := by
  rw [take_succ' h]
  unfold pick
  rw [List.filterMap_append]
  simp [h2]
/-- a draw within -/
theorem Dr.but {m : Nat} {H H' : Hp} {b sc sg ca na : Addr} {tv : V} {room : Int} {kind k : Str} {T : Tongue} {hs : List Hd} {cs ss : List V} {nm : List Str} {ps : List (Str × Str)} (d : Dr K (m + 1) H b sc sg ca na tv room kind T hs cs ss nm ps)
    (hB : But b H H') (hb : Bx H' b) (hk : k ∈ T.ks) (r2 : ¬ room < 2) {sg' : Addr} {ss' : List V} {ps' : List (Str × Str)} (hsg : H' sg' = some (.lst ss')) (hss : Tds K H' ss' (ps'.map pairD)) (hl : ps'.length + 8 * m ≤ 100) (hn : ∀ p ∈ ps', isNm p.1 = true) :
    Dr K m H' b sc sg' ca na tv (room / 2) k T hs cs ss' nm ps' := by
  have kt := hB.tup d.bx
  have n1 : na ≠ b := d.bx.at d.na
  have n2 : ca ≠ b := d.bx.atR d.ca (d.cs.refs fun e he => by
    obtain ⟨h, _, rfl⟩ := List.mem_map.mp he
    exact ⟨_, rfl⟩)
  have hr := d.r1
  have e : (2 : Int) ^ (m + 1 + 1) = 2 ^ (m + 1) * 2 := Int.pow_succ 2 (m + 1)
  rw [e] at hr
  refine ⟨hb, by omega, by omega, d.sc.mono kt, d.tv.mono kt, hB _ _ n2 d.ca, d.cs.mono kt, hB _ _ n1 d.na, hsg, hss, d.ok, d.hok, hk, d.nd, d.nmn, ?_, d.nml2, hl, hn⟩
  rcases d.nml with h | h
  · exact .inl h
  · exact absurd h r2
def spDraw (K : PySem.W.Frag) (n : Nat) : Sp := fun vs H Q _ => ∃ (b sc sg ca na : Addr) (tv : V) (room : Int) (kind : Str) (T : Tongue) (hs : List Hd) (cs ss : List V) (nm : List Str) (ps : List (Str × Str)),
  vs = [.ref b, .ref sc, .str kind, .ref sg, .int room] ∧ Dr K n H b sc sg ca na tv room kind T hs cs ss nm ps ∧
  ∀ v H' t, But b H H' → Bx H' b → Td K H' v t.data → isT t = true → Good (langT T hs) (t, envL ps, kind) → psize t ≤ 8 ^ n → t.dep ≤ n + 1 → Q v H'
def spRec (K : PySem.W.Frag) : Nat → Sp
  | 0 => fun _ _ _ _ => False
  | n + 1 => spDraw K n
abbrev N_Ldraw : List Str := ["_law_box_here", "_law_scene", "_law_kind", "_law_sight", "_law_room", "_law_tongue_here", "_law_calls", "_law_names", "_law_now", "_law_some", "_law_forms", "_law_one", "_law_made", "_law_things", "_law_item", "_law_x", "_law_its", "_law_y", "_law_j"]
theorem sc_Ldraw : FnScope N_Ldraw ["_law_box_here", "_law_scene", "_law_kind", "_law_sight", "_law_room"] (defScope s_Ldraw) := ⟨rfl, rfl, rfl, by decide +kernel, rfl, by decide +kernel, by decide +kernel⟩
abbrev psDraw : List Str := ["_law_box_here", "_law_scene", "_law_kind", "_law_sight", "_law_room"]
theorem draw_binds (T : TX K mg) {n : Nat} {sp : Sp} (len : ∀ vs H Q E, sp vs H Q E → False) : Ok P w K mg base CX0 n "_law_draw" psDraw sp := by
  obtain ⟨fd, F⟩ := T.f_Ldraw
  exact ⟨T.m_Ldraw, F.kp, fd, ⟨fun vs H Q E h => (len vs H Q E h).elim, fun A outer s H args us vs Q E hr he hb hv hs => (len vs H Q E hs).elim⟩, F.bindsN fun _ _ _ _ _ _ us hl => match us, hl with | [_, _, _, _, _], _ => rfl⟩
theorem draw_step (T : TX K mg) (n : Nat) (IH : Ok P w K mg base CX0 (3 + n) "_law_draw" psDraw (spRec K n)) : Ok P w K mg base CX0 (3 + n + 1) "_law_draw" psDraw (spDraw K n) := by
  refine Ok.mk' T T.m_Ldraw T.f_Ldraw sc_Ldraw (fun vs H Q E h => ?_) (fun _ _ _ _ _ _ us hl => match us, hl with | [_, _, _, _, _], _ => rfl) (fun cdv A outer s H vs Q E hr h => ?_)
  · obtain ⟨b, sc, sg, ca, na, tv, room, kind, Tg, hs, cs, ss, nm, ps, rfl, _⟩ := h
    rfl
  · obtain ⟨b, sc, sg, ca, na, tv, room, kind, Tg, hs, cs, ss, nm, ps, rfl, d, q⟩ := h
    have hu := hu_of hr
    have hu64 := hr.units
    have l1 : 1 ≤ 3 + n := by omega
    have l2 : 2 ≤ 3 + n := by omega
    refine ⟨_, (pss_cons (ps_asg (pe_tup (pa_cons (pv 1) (pa_cons (pe_callTy (call_dictP rfl) (by rfl) T.n_dict (by decide +kernel) (pa_cons (pv 3) pa_nil)) pa_nil))) (pg_tup rfl (pgs_cons (pg_tup rfl (pgs_cons (pg_name (i := 5) sc_Ldraw.nd rfl (.inl rfl)) (pgs_cons (pg_name (i := 6) sc_Ldraw.nd rfl (.inl rfl)) (pgs_cons (pg_name (i := 7) sc_Ldraw.nd rfl (.inl rfl)) pgs_nil)))) (pgs_cons (pg_name (i := 8) sc_Ldraw.nd rfl (.inr rfl)) pgs_nil))))
      (pss_cons (ps_lock (ps_setLc (i := 9) (own := [("_law_x", 15)]) (g := gName 15) (by rfl) sc_Ldraw.nd rfl rfl (sw_true rfl rfl rfl (by decide +kernel)) (pi_keys (pv 8)) (blkOk_by (own := [("_law_x", 15)]) (N := N_Ldraw) (sc := defScope s_Ldraw) (by decide +kernel)) (fun _ _ _ _ _ => (pg_name (i := 15) sc_Ldraw.nd rfl (Or.inl rfl))) (fun _ _ _ _ _ => pts_one (pt_cmpR op_eq (pe_dget hu (pv 8) (pv 15) (fun _ _ => rfl)) (pv 2) (nomark _))) (fun _ _ _ _ _ => (pv 15))))
      (Evl.pss_cut (ps_if (PW.pt (pw_and (pt_cmpR (op_neD hu64) (pv 9) (pe_lst pa_nil) (nomark _)) (pw_and1 (PW.pt (pw_or (pt_cmpR op_lt (pv 4) pe_int (nomark _)) (pw_or1 (pt_cmpR op_eq (pe_ok (ok_Ltake T) hr l1 (by rfl) (pa_cons (pv 0) (pa_cons pe_int pa_nil)) pass0) pe_int (nomark _))))))))
        (pss_one (ps_ret (pe_tup (pa_cons pe_str (pa_cons (pe_ok (ok_Lone_of T) hr l2 (by rfl) (pa_cons (pv 0) (pa_cons (pv 9) pa_nil)) pass0) pa_nil)))))
        pss_nil)
      (pss_cons (ps_setLc (i := 10) (own := [("_law_one", 11)]) (g := gName 11) (by rfl) sc_Ldraw.nd rfl rfl (sw_true rfl rfl rfl (by decide +kernel)) (pi_tup (pe_op (op_catU (K := K)) (pe_ix ix_tup (pv 5) pe_int (fun _ _ => rfl)) (pe_callTy (call_tupU (K := K)) (by rfl) T.n_tuple (by decide +kernel) (pa_cons (pv 6) pa_nil)))) (blkOk_by (own := [("_law_one", 11)]) (N := N_Ldraw) (sc := defScope s_Ldraw) (by decide +kernel)) (fun _ _ _ _ _ => (pg_name (i := 11) sc_Ldraw.nd rfl (Or.inl rfl))) (fun _ _ _ _ _ => pts_one (pt_cmpR op_eq (pe_ix (ix_tupK (K := K)) (pv 11) pe_int (fun _ _ => rfl)) (pv 2) (nomark _))) (fun _ _ _ _ _ => (pv 11)))
      (pss_cons (ps_set (i := 11) sc_Ldraw.nd rfl (Or.inl rfl) (pe_ix ix_list (pe_lst (pa_cons (pe_ok (ok_Lone_of T) hr l2 (by rfl) (pa_cons (pv 0) (pa_cons (pv 10) pa_nil)) pass0) (pa_cons (pe_ix ix_list (pv 10) pe_int (fun _ _ => rfl)) pa_nil))) (pe_callTy call_int1 (by rfl) T.n_int (by decide +kernel) (pa_cons (pe_cmpR op_lt (pv 4) pe_int (nomark _)) pa_nil)) (fun _ _ => rfl)))
      (pss_cons (ps_if (pt_cmpR op_eq (pe_callB call_len_seq (by rfl) T.n_len PySem.boot_len (pa_cons (pv 11) pa_nil)) pe_int (nomark _))
        (pss_one (ps_ret (pe_tup (pa_cons pe_str (pa_cons (pe_ix ix_tup (pv 11) pe_int (fun _ _ => rfl)) (pa_cons (pe_callTy (call_tupU (K := K)) (by rfl) T.n_tuple (by decide +kernel) (pa_cons (pe_lc (own := [("_law_its", 16)]) (g := gName 16) (tt := tYes) (by rfl) sc_Ldraw.nd (pi_tup (pe_ix ix_tup (pv 11) pe_int (fun _ _ => rfl))) (blkOk_by (own := [("_law_its", 16)]) (N := N_Ldraw) (sc := defScope s_Ldraw) (by decide +kernel)) (fun _ _ _ _ _ => (pg_name (i := 16) sc_Ldraw.nd rfl (Or.inl rfl))) (fun _ _ _ _ _ => pts_nil) (fun _ _ _ _ _ => (pe_ok IH hr (Nat.le_refl _) (by rfl) (pa_cons (pv 0) (pa_cons (pv 1) (pa_cons (pv 16) (pa_cons (pv 3) (pa_cons (pe_op op_fdiv (pv 4) pe_int) pa_nil))))) pass0))) pa_nil)) pa_nil))))))
        pss_nil)
      (pss_cons (ps_asg (pe_tup (pa_cons (pe_lst pa_nil) (pa_cons (pe_lst pa_nil) pa_nil))) (pg_tup rfl (pgs_cons (pg_name (i := 12) sc_Ldraw.nd rfl (.inr rfl)) (pgs_cons (pg_name (i := 13) sc_Ldraw.nd rfl (.inl rfl)) pgs_nil))))
      (pss_cons (ps_for PassesOwn.never rfl (pi_tup (pe_ix ix_tup (pv 11) pe_int (fun _ _ => rfl))) (pg_name (i := 14) sc_Ldraw.nd rfl (.inl rfl))
        (pss_cons (ps_if (pt_cmpR op_eq (pe_ix ix_tup (pv 14) pe_int (fun _ _ => rfl)) pe_str (nomark _))
          (pss_one (ps_expr (pe_bm PySem.F.plainAttrs_list PySem.F.slot_list_append PySem.F.type_list_append mt_append (pv 13) (pa_cons (pe_ix ix_list (pe_lst (pa_cons (pe_ok (ok_Ltake T) hr l1 (by rfl) (pa_cons (pv 0) (pa_cons pe_int pa_nil)) pass0) (pa_cons (pe_ok (ok_Ltake T) hr l1 (by rfl) (pa_cons (pv 0) (pa_cons pe_int pa_nil)) pass0) pa_nil))) (pe_ok (ok_Ltake T) hr l1 (by rfl) (pa_cons (pv 0) (pa_cons pe_int pa_nil)) pass0) (fun _ _ => rfl)) pa_nil))))
          pss_nil)
        (pss_cons (ps_if (pt_cmpR op_eq (pe_ix ix_tup (pv 14) pe_int (fun _ _ => rfl)) pe_str (nomark _))
          (pss_cons (ps_expr (pe_bm PySem.F.plainAttrs_list PySem.F.slot_list_append PySem.F.type_list_append mt_append (pv 12) (pa_cons (pe_tup (pa_cons (pe_ok (ok_Lone_of T) hr l2 (by rfl) (pa_cons (pv 0) (pa_cons (pe_lc (own := [("_law_x", 15)]) (g := gName 15) (by rfl) sc_Ldraw.nd (pi_list (pv 7)) (blkOk_by (own := [("_law_x", 15)]) (N := N_Ldraw) (sc := defScope s_Ldraw) (by decide +kernel)) (fun _ _ _ _ _ => (pg_name (i := 15) sc_Ldraw.nd rfl (Or.inl rfl))) (fun _ _ _ _ _ => pts_one (pt_cmpR (op_notIn_seqK (K := K)) (pv 15) (pe_lc (own := [("_law_y", 17), ("_law_its", 16)]) (g := gTup K 2 (gCons (gName 17) (gCons (gName 16) gNil))) (tt := tYes) (by rfl) sc_Ldraw.nd (pi_listK (K := K) (pv 12)) (blkOk_by (own := [("_law_y", 17), ("_law_its", 16)]) (N := N_Ldraw) (sc := ⟨.function, [(".0", .local), ("_law_x", .local), ("_law_made", .cell)], false, false, []⟩) (by decide +kernel)) (fun _ _ _ _ _ => (pg_tup rfl (pgs_cons (pg_name (i := 17) sc_Ldraw.nd rfl (Or.inl rfl)) (pgs_cons (pg_name (i := 16) sc_Ldraw.nd rfl (Or.inl rfl)) pgs_nil)))) (fun _ _ _ _ _ => pts_nil) (fun _ _ _ _ _ => (pv 17))) rfl)) (fun _ _ _ _ _ => (pv 15))) pa_nil)) pass0) (pa_cons (pe_ix ix_tup (pv 14) pe_int (fun _ _ => rfl)) pa_nil))) pa_nil)))
          (pss_one (ps_expr (pe_bm PySem.F.plainAttrs_list PySem.F.slot_list_append PySem.F.type_list_append mt_append (pv 13) (pa_cons (pe_ix ix_tup (pe_ix ix_list (pv 12) (pe_un un_neg pe_int) (fun _ _ => rfl)) pe_int (fun _ _ => rfl)) pa_nil)))))
          pss_nil)
        (pss_one (ps_if (pt_cmpR op_eq (pe_ix ix_tup (pv 14) pe_int (fun _ _ => rfl)) pe_str (nomark _))
          (pss_one (ps_expr (pe_bm PySem.F.plainAttrs_list PySem.F.slot_list_append PySem.F.type_list_append mt_append (pv 13) (pa_cons (pe_ok IH hr (Nat.le_refl _) (by rfl) (pa_cons (pv 0) (pa_cons (pv 1) (pa_cons (pe_ix ix_tup (pv 14) pe_int (fun _ _ => rfl)) (pa_cons (pe_op op_cat (pv 3) (pe_lc (own := [("_law_j", 18)]) (g := gName 18) (tt := tYes) (by rfl) sc_Ldraw.nd (pi_tup (pe_ix ix_tup (pv 14) pe_int (fun _ _ => rfl))) (blkOk_by (own := [("_law_j", 18)]) (N := N_Ldraw) (sc := defScope s_Ldraw) (by decide +kernel)) (fun _ _ _ _ _ => (pg_name (i := 18) sc_Ldraw.nd rfl (Or.inl rfl))) (fun _ _ _ _ _ => pts_nil) (fun _ _ _ _ _ => (pe_ix (ix_listK (K := K)) (pv 12) (pv 18) (fun _ _ => rfl))))) (pa_cons (pe_op op_fdiv (pv 4) pe_int) pa_nil))))) pass0) pa_nil))))
          pss_nil)))))
      (pss_one (ps_ret (pe_tup (pa_cons pe_str (pa_cons (pe_ix ix_tup (pv 5) pe_int (fun _ _ => rfl)) (pa_cons (pe_ix ix_tup (pv 11) pe_int (fun _ _ => rfl)) (pa_cons (pe_callTy (call_tupU (K := K)) (by rfl) T.n_tuple (by decide +kernel) (pa_cons (pv 13) pa_nil)) pa_nil))))))))))))))), ?_⟩
    have d' := d
    obtain ⟨bx, r0, r1, hsc, htv, hca, hcs, hna, hsg, hss, ok, hok, kd, nd, nmn, nml, nml2, psl, psn⟩ := d'
    obtain ⟨aT, v1, v2, v3, v4, v5, v6, v7, rfl, hT, t1, t2, t3, t4, t5, t6, t7⟩ := Td.i7 htv
    obtain rfl := t2.strI
    obtain ⟨af, fsv, rfl, haf, hfs⟩ := Td.inv t7
    clear t1 t3 t4 t5 t6
    obtain ⟨as, rfl, hpair⟩ := pairs_at hss
    have nsg : sg ≠ b := bx.atR hsg (fun x hx => by
      obtain ⟨a, _, rfl⟩ := List.mem_map.mp hx
      exact ⟨a, rfl⟩)
    have nna : na ≠ b := bx.at hna
    have nca : ca ≠ b := bx.atR hca (hcs.refs fun e he => by
      obtain ⟨h, _, rfl⟩ := List.mem_map.mp he
      exact ⟨_, rfl⟩)
    -- the names in sight
    refine ⟨_, rfl, _, rfl, sg, as, ps.map kvOf, rfl, .inl (.inl hsg), hpair, fun pn hpn => ?_⟩
    generalize hkv : mergeK [] (ps.map kvOf) = kv
    have hkE : KvE kv (envL ps) := by rw [← hkv]; exact KvE.dict ps
    have hkl : kv.length ≤ 100 := by
      have := length_mergeK (ps.map kvOf) []
      rw [hkv, List.length_map, List.length_nil] at this
      omega
    generalize hE : upd _ pn _ = H1
    obtain ⟨s1, e1⟩ := mk hE hpn
    refine ⟨lz 2, fun p1 h1 => ?_⟩
    generalize hE : upd _ p1 _ = H2
    obtain ⟨s2, e2⟩ := mk hE h1
    have s02 := s1.trans s2
    have ePn := s2 _ _ e1
    refine ⟨p1, _, rfl, .inl (.inl e2), rfl, _, _, rfl, ⟨sc, _, rfl, (hsc.mono (tk s02)).sq, rfl, _, _, rfl, _, _, rfl, _, _, rfl, rfl, _, _, rfl, rfl, ?_⟩⟩
    -- those of the kind
    refine ⟨pn, _, ePn, trivial, fun od => ?_⟩
    generalize hl : upd H2 pn _ = Hl
    have el : Hl pn = some (.frz od (.dK kv)) := by rw [← hl]; exact upd_same
    refine ⟨_, rfl, pn, od, rfl, .inl ⟨kv, el, fun D nD => lc_it walk_keys (fun i H' => (∀ c, c ≠ D → H' c = Hl c) ∧ ∃ xs : List Str, H' D = some (.lst (xs.map .str)) ∧ xs.length ≤ i ∧ ∀ x ∈ xs, envL ps x = some kind) ⟨fun c hc => upd_ne hc, [], upd_same, Nat.zero_le _, fun _ h => nomatch h⟩ (fun i H' _ hP => ?_) (fun i x Ha Hb hi hP hY => ?_) (fun Ha hP => ?_)⟩⟩
    · rw [hP.1 pn (ne_of_none el nD)]
      exact el
    · obtain ⟨hk, xs, ea, la, hx⟩ := hP
      obtain ⟨rfl, k, v, hkv', rfl⟩ := hY
      obtain ⟨x, y, rfl, hr, hv⟩ := hkE.at hkv'
      have ePa : Hb pn = some (.frz od (.dK kv)) := by
        rw [hk pn (ne_of_none el nD)]
        exact el
      refine ⟨rfl, _, rfl, _, rfl, pn, .str y, rfl, .inl ⟨kv, .inr x, .inr ⟨od, ePa⟩, rfl, hv.symm⟩, _, rfl, rfl, _, rfl, ?_⟩
      rw [decV]
      by_cases hy : y = kind
      · refine ifT (decide_eq_true hy) ⟨_, rfl, _, ea, ?_, fun c hc => ?_, xs ++ [x], ?_, ?_, fun z hz => ?_⟩
        · rw [List.length_map]
          exact lzl (by omega)
        · rw [upd_ne hc]
          exact hk c hc
        · rw [upd_same, List.map_append]
          rfl
        · rw [List.length_append]
          exact Nat.succ_le_succ la
        · rcases List.mem_append.mp hz with hz | hz
          · exact hx z hz
          · rw [List.mem_singleton] at hz
            rw [hz, hr, hy]
      · exact ifF (decide_eq_false hy) ⟨hk, xs, ea, Nat.le_succ_of_le la, hx⟩
    obtain ⟨hk, xs, ea, la, hx⟩ := hP
    have nDpn : D ≠ pn := (ne_of_none el nD).symm
    refine ⟨by rw [hk pn nDpn.symm]; exact el, ?_⟩
    generalize hE : upd Ha pn _ = H3
    have k23 : ∀ c, c ≠ D → H3 c = H2 c := fun c hc => by
      rw [← hE]
      by_cases hcp : c = pn
      · rw [hcp, upd_same, ePn]
      · rw [upd_ne hcp, hk c hc, ← hl, upd_ne hcp]
    have nD2 : H2 D = none := by
      rw [← hl, upd_ne nDpn] at nD
      exact nD
    have s23 : Same H2 H3 := fun c o e => by rw [k23 c (ne_of_none e nD2)]; exact e
    have eD : H3 D = some (.lst (xs.map .str)) := by rw [← hE, upd_ne nDpn]; exact ea
    have s03 : Same H H3 := s02.trans s23
    clear hE hk ea el nD hl k23 nD2 Ha e1 e2 s1 s2 hpn h1 ePn
    have bx3 := bx.same s03
    have nDb : D ≠ b := bx3.at eD
    have hxn : ∀ x ∈ xs, isNm x = true := by
      have key : ∀ (qs : List (Str × Str)) (r : Sg), (∀ x k, r x = some k → isNm x = true) → (∀ p ∈ qs, isNm p.1 = true) → ∀ x k, qs.foldl (fun r p => r.up p.1 p.2) r x = some k → isNm x = true := by
        intro qs
        induction qs with
        | nil => exact fun r h _ => h
        | cons p qs ih =>
          intro r h h2
          refine ih _ (fun x k hx => ?_) fun q hq => h2 q (List.mem_cons_of_mem _ hq)
          have hx' : (if x = p.1 then some p.2 else r x) = some k := hx
          by_cases e : x = p.1
          · rw [e]
            exact h2 p List.mem_cons_self
          · rw [if_neg e] at hx'
            exact h x k hx'
      intro x hx'
      exact key ps _ (fun _ _ h => by cases h) psn x kind (hx x hx')
    have pw : 1 ≤ 8 ^ n := Nat.one_le_pow n 8 (by decide)
    have ret : ∀ H5, But b H H5 → Bx H5 b → H5 D = some (.lst (xs.map .str)) → 0 < xs.length → spOneOf K [.ref b, .ref D] H5 (fun x H6 => ∀ p H7, Same H6 H7 → H7 p = some (.tup [.str "name", x]) → Q (.ref p) H7) E := by
      intro H5 hB5 hb5 eD5 hl5
      refine ⟨b, .ref D, _, rfl, hb5, .inl ⟨D, rfl, nDb, eD5⟩, by rw [List.length_map]; exact hl5, by rw [List.length_map]; omega, fun x H6 hx6 hB6 hb6 p H7 s7 e7 => ?_⟩
      obtain ⟨x, hx', rfl⟩ := List.mem_map.mp hx6
      exact q _ _ (.name x) ((hB5.trans hB6).trans (But.of s7)) (hb6.same s7) (.at e7 (.cons (.str _) (.cons (.str _) .nil))) rfl (name_good (hx x hx')) pw (by show 1 ≤ n + 1; omega)
    refine ⟨fun σ H' => σ = [some (.ref b), some (.ref sc), some (.str kind), some (.ref sg), some (.int room), some (.ref aT), some (.ref ca), some (.ref na), some (.ref pn), some (.ref D), none, none, none, none, none, none, none, none, none] ∧ But b H H' ∧ Bx H' b, ?_, ?_⟩
    · refine ⟨_, rfl, lz 0, fun p4 h4 => ?_⟩
      generalize hE : upd _ p4 _ = H4
      obtain ⟨s4, e4⟩ := mk hE h4
      have hB4 := But.of (b := b) (s03.trans s4)
      have hb4 := bx3.same s4
      have eD4 := s4 _ _ eD
      refine ⟨.list (xs.map .str), .list [], .lst (.inl (.inl eD4)) (strs_dp xs), .lst (.inl (.inl e4)) .nil, strs_shaped xs hxn, rfl, _, rfl, ?_⟩
      rw [strs_eqv]
      cases hxs : xs with
      | nil => exact ⟨rfl, hB4, hb4⟩
      | cons x r =>
        have hl0 : 0 < xs.length := by rw [hxs]; exact Nat.succ_pos _
        refine ⟨_, rfl, _, _, rfl, rfl, _, rfl, ite2 (fun _ => ?_) (fun _ => ?_)⟩
        · refine ⟨_, rfl, _, rfl, ?_⟩
          obtain ⟨b', v', xs', h1, h2, h3, h4', h5, h6⟩ := ret H4 hB4 hb4 eD4 hl0
          refine ⟨b', v', xs', h1, h2, h3, h4', h5, fun x H' hx hB hb => ⟨lz 2, fun p hp => ?_⟩⟩
          exact h6 x H' hx hB hb p _ (same_new hp) upd_same
        · refine ⟨_, rfl, b, 4, rfl, hb4, by decide, by decide, fun r H5 _ _ hB5 hb5 => ⟨rfl, _, rfl, ite2 (fun _ => ?_) (fun _ => ?_)⟩⟩
          · refine ⟨_, rfl, _, rfl, ?_⟩
            obtain ⟨b', v', xs', h1, h2, h3, h4', h5, h6⟩ := ret H5 (hB4.trans hB5) hb5 (hB5 _ _ nDb eD4) hl0
            refine ⟨b', v', xs', h1, h2, h3, h4', h5, fun x H' hx hB hb => ⟨lz 2, fun p hp => ?_⟩⟩
            exact h6 x H' hx hB hb p _ (same_new hp) upd_same
          · exact ⟨rfl, hB4.trans hB5, hb5⟩
    rintro σ' H4 ⟨rfl, hB4, bx4⟩
    clear ret
    -- the forms and heads of the kind
    have kt4 : TupK H H4 := hB4.tup bx
    refine ⟨_, rfl, aT, _, 6, _, rfl, rfl, (hT.mono kt4).sq, rfl, _, rfl, ca, cs, rfl, .inl (hB4 _ _ nca hca), fun pc H5 s5 hpc => ?_⟩
    have hfl : fsv.length = Tg.forms.length := by rw [hfs.len, List.length_map]
    have hcl : cs.length = hs.length := by rw [hcs.len, List.length_map]
    have kt5 := kt4.trans (tk s5)
    refine ⟨af, pc, fsv, cs, rfl, rfl, haf.mono kt5, hpc, by have := ok.flen; have := hok.len; omega, fun po H6 s6 hpo => ?_⟩
    have kt6 := kt5.trans (tk s6)
    have hB6 : But b H H6 := hB4.trans (But.of (s5.trans s6))
    have bx6 := bx4.same (s5.trans s6)
    have tO : Tds K H6 (fsv ++ cs) ((opts Tg hs).map optD) := by
      rw [opts_D]
      exact (hfs.mono kt6).append (hcs.mono kt6)
    have hol : (fsv ++ cs).length = (opts Tg hs).length := by rw [tO.len, List.length_map]
    have hol2 : (opts Tg hs).length ≤ 600 := by
      rw [← hol, List.length_append]
      have := ok.flen; have := hok.len; omega
    clear s5 s6 hpc kt5
    refine ⟨po, rfl, ⟨_, hpo.sq⟩, fun D2 nD2 => lc_it (walk_tup (K := K) (a := po) (xs := fsv ++ cs)) (fun i H' => Same H6 H' ∧ ∃ acc, H' D2 = some (.lst acc) ∧ Tds K H' acc ((((opts Tg hs).take i).filter fun o => decide (optK o = kind)).map optD)) ⟨same_new nD2, [], upd_same, .nil⟩ (fun i H' _ hP => sqt_mono hpo.sq (tk hP.1)) (fun i x Ha Hb hi hP hY => ?_) (fun Ha hP => ?_)⟩
    · obtain ⟨sa, acc, ea, ta⟩ := hP
      obtain ⟨rfl, hx⟩ := hY
      obtain ⟨d0, hd0, dx⟩ := (tO.mono (tk sa)).getV hx
      obtain ⟨o, ho, rfl⟩ := map_at hd0
      obtain ⟨a2, xs2, rfl, hT2, f2⟩ := opt_fields dx
      have keep : ((opts Tg hs).take (i + 1)).filter (fun o => decide (optK o = kind)) = ((opts Tg hs).take i).filter (fun o => decide (optK o = kind)) ++ [o].filter (fun o => decide (optK o = kind)) := by
        rw [take_succ' ho, List.filter_append]
      refine ⟨rfl, _, rfl, a2, _, 2, .str (optK o), rfl, rfl, hT2.sq, at_of (j := 2) rfl f2, _, rfl, rfl, _, rfl, ?_⟩
      rw [decV]
      by_cases hk : optK o = kind
      · refine ifT (decide_eq_true hk) ⟨_, rfl, acc, ea, ?_, smut sa nD2, _, upd_same, ?_⟩
        · have := List.length_filter_le (fun o => decide (optK o = kind)) ((opts Tg hs).take i)
          rw [ta.len, List.length_map]
          rw [List.length_take] at this
          exact lzl (by omega)
        · rw [keep, List.filter_cons_of_pos (by simp [hk]), List.map_append]
          exact Tds.mono (TupK.put (TupK.refl _) ea rfl) (ta.snoc dx)
      · refine ifF (decide_eq_false hk) ⟨sa, acc, ea, ?_⟩
        rw [keep, List.filter_cons_of_neg (by simp [hk])]
        simpa using ta
    obtain ⟨sa, acc, ea, ta⟩ := hP
    rw [show (opts Tg hs).take (fsv ++ cs).length = opts Tg hs from List.take_of_length_le (by omega)] at ta
    obtain ⟨f0, hf0, hf0m, hf0k, hf0l⟩ := opts_first (hs := hs) ok kd
    generalize hfl2 : (opts Tg hs).filter (fun o => decide (optK o = kind)) = fl at ta hf0
    have hflm : ∀ o ∈ fl, o ∈ opts Tg hs ∧ optK o = kind := fun o ho => by
      rw [← hfl2] at ho
      have := List.mem_filter.mp ho
      exact ⟨this.1, of_decide_eq_true this.2⟩
    have hfll : fl.length ≤ 600 := by
      rw [← hfl2]
      exact Nat.le_trans (List.length_filter_le _ _) hol2
    have hfl0 : 0 < fl.length := (List.getElem?_eq_some_iff.mp hf0).1
    have nD2b : D2 ≠ b := bx6.ne nD2
    have hBa : But b H Ha := hB6.trans (But.of sa)
    have bxa := bx6.same sa
    have hal : acc.length = fl.length := by rw [ta.len, List.length_map]
    clear hfl2 tO hol hol2 hpo
    -- one of them
    refine ⟨_, rfl, _, rfl, b, .ref D2, acc, rfl, bxa, .inl ⟨D2, rfl, nD2b, ea⟩, by omega, by omega, fun x H7 hx7 hB7 bx7 => ?_⟩
    have ta7 := ta.mono (hB7.tup bxa)
    have ea7 := hB7 _ _ nD2b ea
    obtain ⟨y0, hy0, dy0⟩ := ta7.get (i := 0) (d := optD (.inl f0)) (by rw [List.getElem?_map, hf0]; rfl)
    refine ⟨_, rfl, D2, acc, 0, y0, rfl, rfl, .inl (.inl ea7), at_of (j := 0) rfl hy0, lz 2, fun p8 h8 => ?_⟩
    generalize hE : upd _ p8 _ = H8
    obtain ⟨s8, e8⟩ := mk hE h8
    refine ⟨_, rfl, _, _, rfl, rfl, .inr ⟨_, rfl, ?_⟩⟩
    obtain ⟨z, o, hz, hom, dz, hzl⟩ : ∃ z o, atI [x, y0] (if decide (room < 2) = true then 1 else 0) = some z ∧ o ∈ fl ∧ Td K H8 z (optD o) ∧ (room < 2 → ∃ f, o = .inl f ∧ ∀ it ∈ f.1.items, it = .lit) := by
      by_cases hr2 : room < 2
      · rw [if_pos (decide_eq_true hr2)]
        exact ⟨y0, .inl f0, rfl, List.mem_of_getElem? hf0, dy0.mono (tk s8), fun _ => ⟨f0, rfl, hf0l⟩⟩
      · rw [if_neg (by simp [hr2])]
        obtain ⟨j, hj⟩ := List.getElem?_of_mem hx7
        obtain ⟨dd, hdd, dxx⟩ := ta7.getV hj
        obtain ⟨o, ho, rfl⟩ := map_at hdd
        exact ⟨x, o, rfl, List.mem_of_getElem? ho, dxx.mono (tk s8), fun h => absurd h hr2⟩
    refine ⟨p8, _, _, z, rfl, rfl, .inl (.inl e8), hz, ?_⟩
    have hB8 : But b H H8 := (hBa.trans hB7).trans (But.of s8)
    have bx8 := bx7.same s8
    obtain ⟨hoo, hok2⟩ := hflm o hom
    have kt8 := hB8.tup bx
    clear hz hx7 dy0 hy0 ta7 ea7 e8 s8 hB7 bx7 ta ea hal hflm hom hf0 hf0m hf0k hf0l hE h8
    cases o with
    | inr h =>
      have hm : h ∈ hs := by
        rcases List.mem_append.mp hoo with hh | hh
        · obtain ⟨_, _, e⟩ := List.mem_map.mp hh
          cases e
        · obtain ⟨h', hh', e⟩ := List.mem_map.mp hh
          cases e
          exact hh'
      have hr2 : ¬ room < 2 := fun hr => by
        obtain ⟨f, e, _⟩ := hzl hr
        cases e
      cases n with
      | zero => exact absurd r1 hr2
      | succ m =>
      obtain ⟨za, w1, w2, w3, rfl, hZ, g1, g2, g3⟩ := Td.i3 dz
      obtain rfl := g1.strI
      obtain ⟨ka, kvs, rfl, hka, hks⟩ := Td.inv g2
      refine ⟨_, rfl, za, _, rfl, .inr hZ.sq, rfl, _, rfl, ifT (show decide (V.int ((3 : Nat) : Int) = V.int 3) = true by decide) ?_⟩
      refine ⟨_, rfl, za, _, 0, _, rfl, rfl, hZ.sq, rfl, _, rfl, za, _, 1, _, rfl, rfl, hZ.sq, rfl, ka, rfl, ⟨_, hka.sq⟩, fun D3 nD3 => ?_⟩
      have nD3b : D3 ≠ b := bx8.ne nD3
      have hkl2 : kvs.length = h.2.1.length := by rw [hks.len, List.length_map]
      have ha7 := hok.args h hm
      refine lc_it (walk_tup (K := K) (a := ka) (xs := kvs)) (fun i H' => But b H8 H' ∧ Bx H' b ∧ ∃ (acc : List V) (ts : List Tm), H' D3 = some (.lst acc) ∧ Tds K H' acc (ts.map Tm.data) ∧ ts.length = i ∧ (∀ t ∈ ts, isT t = true ∧ psize t ≤ 8 ^ m ∧ t.dep ≤ m + 1) ∧ ∀ q ∈ (h.2.1.take i).zip ts, Good (langT Tg hs) (q.2, envL ps, q.1)) ⟨But.new nD3, bx8.keep nD3b.symm, [], [], upd_same, .nil, rfl, (fun _ h => nomatch h), fun _ hq => (by simp at hq)⟩ (fun i H' _ hP => sqt_mono hka.sq (hP.1.tup bx8)) (fun i x Ha Hb hi hP hY => ?_) (fun Ha hP => ?_)
      · obtain ⟨hBc, bxc, acc, ts, ea, ta, tl, tok, tg⟩ := hP
        obtain ⟨rfl, hx⟩ := hY
        obtain ⟨dd, hdd, dx⟩ := hks.getV hx
        obtain ⟨k, hk, rfl⟩ := map_at hdd
        obtain rfl := dx.strI
        have hkm := List.mem_of_getElem? hk
        have dr := d.but (hB8.trans hBc) bxc (hok.kinds h hm k hkm) hr2 ((hB8.trans hBc) _ _ nsg hsg) (hss.mono ((hB8.trans hBc).tup bx)) (by omega) psn
        refine ⟨rfl, _, rfl, _, rfl, _, rfl, _, rfl, _, rfl, _, _, rfl, rfl, ⟨by decide, by decide⟩, b, sc, sg, ca, na, _, room / 2, k, Tg, hs, cs, _, nm, ps, rfl, dr, fun v H9 t hB9 bx9 dt ht hg hp hd => ?_⟩
        refine ⟨acc, hB9 _ _ nD3b ea, ?_, (hBc.trans hB9).mut nD3, bx9.keep nD3b.symm, _, ts ++ [t], upd_same, ?_, by rw [List.length_append, tl]; rfl, fun t' ht' => ?_, fun q hq => ?_⟩
        · rw [ta.len, List.length_map]
          exact lzl (by omega)
        · rw [List.map_append]
          exact Tds.mono (TupK.put (TupK.refl _) (hB9 _ _ nD3b ea) rfl) ((ta.mono (hB9.tup bxc)).snoc dt)
        · rcases List.mem_append.mp ht' with ht' | ht'
          · exact tok t' ht'
          · rw [List.mem_singleton] at ht'
            subst ht'
            exact ⟨ht, hp, hd⟩
        · have hkl3 : (h.2.1.take i).length = ts.length := by
            rw [List.length_take, tl]
            omega
          rw [take_succ' hk, zip_snoc hkl3] at hq
          rcases List.mem_append.mp hq with hq | hq
          · exact tg q hq
          · rw [List.mem_singleton] at hq
            subst hq
            exact hg
      obtain ⟨hBc, bxc, acc, ts, ea, ta, tl, tok, tg⟩ := hP
      rw [show h.2.1.take kvs.length = h.2.1 from List.take_of_length_le (by omega)] at tg
      refine ⟨D3, acc, rfl, .inl ea, fun p9 H9 s9 h9 => ⟨lz 3, fun p10 h10 => ?_⟩⟩
      generalize hE : upd _ p10 _ = H10
      obtain ⟨s10, e10⟩ := mk hE h10
      have hsum : ∀ l : List Tm, (∀ t ∈ l, isT t = true ∧ psize t ≤ 8 ^ m ∧ t.dep ≤ m + 1) → psizeL l ≤ l.length * 8 ^ m ∧ depL l ≤ m + 1 := by
        intro l
        induction l with
        | nil => intro _; exact ⟨by simp [psizeL], by simp [depL]⟩
        | cons t l ih =>
          intro h
          obtain ⟨i1, i2⟩ := ih fun t ht => h t (List.mem_cons_of_mem _ ht)
          obtain ⟨j1, j2, j3⟩ := h t List.mem_cons_self
          refine ⟨?_, ?_⟩
          · simp only [psizeL, j1, if_true, List.length_cons, Nat.add_mul]
            omega
          · simp only [depL]
            omega
      obtain ⟨z1, z2⟩ := hsum ts tok
      refine q _ _ (.call h.1 ts) ((hB8.trans hBc).trans (But.of (s9.trans s10))) (bxc.same (s9.trans s10)) ?_ rfl ?_ ?_ ?_
      · unfold Tm.data
        rw [dataL_map]
        exact .at e10 (.cons (.str _) (.cons (.str _) (.cons (.tup (h9.mono (tk s10)) (ta.mono (tk (s9.trans s10)))) .nil)))
      · have hh := lang_head (T := Tg) hok hm
        have hkk : h.2.2 = kind := hok2
        obtain ⟨hf, hks', hkd⟩ := h
        cases hkk
        exact call_good hh (by rw [tl, hkl2]) (fun t ht => (tok t ht).1) tg
      · have e1 : ts.length * 8 ^ m ≤ 7 * 8 ^ m := Nat.mul_le_mul_right _ (by omega)
        have e2 : 8 ^ (m + 1) = 8 ^ m * 8 := rfl
        have e3 : 1 ≤ 8 ^ m := Nat.one_le_pow m 8 (by decide)
        simp only [psize]
        omega
      · simp only [Tm.dep]
        omega
    | inl f =>
      have hm : f ∈ Tg.forms := by
        rcases List.mem_append.mp hoo with hh | hh
        · obtain ⟨h', hh', e⟩ := List.mem_map.mp hh
          cases e
          exact hh'
        · obtain ⟨_, _, e⟩ := List.mem_map.mp hh
          cases e
      obtain ⟨za, w1, w2, w3, w4, rfl, hZ, g1, g2, g3, g4⟩ := Td.i4 dz
      obtain rfl := g1.strI
      obtain ⟨ia, its, rfl, hia, his⟩ := Td.inv g2
      obtain ⟨hfk, hfok, hfn, hf7⟩ := ok.form f hm
      have hfkd : f.1.kind = kind := hok2
      have hlit : room < 2 → ∀ it ∈ f.1.items, it = .lit := fun hr => by
        obtain ⟨f', e, hl⟩ := hzl hr
        cases e
        exact hl
      clear hzl g3 g4
      refine ⟨_, rfl, za, _, rfl, .inr hZ.sq, rfl, _, rfl, ifF (show decide (V.int ((4 : Nat) : Int) = V.int 3) = false by decide) ?_⟩
      -- made, things
      refine ⟨lz 0, fun M nM => ?_⟩
      generalize hE : upd _ M _ = H9
      obtain ⟨s9, e9⟩ := mk hE nM
      refine ⟨lz 0, fun Th nTh => ?_⟩
      generalize hE : upd _ Th _ = H10
      obtain ⟨s10, e10⟩ := mk hE nTh
      refine ⟨lz 2, fun p11 h11 => ?_⟩
      generalize hE : upd _ p11 _ = H11
      obtain ⟨s11, e11⟩ := mk hE h11
      refine ⟨p11, _, rfl, .inl (.inl e11), rfl, _, _, rfl, _, _, rfl, rfl, ?_⟩
      have s8' := s9.trans (s10.trans s11)
      have eM := (s10.trans s11) _ _ e9
      have eTh := s11 _ _ e10
      have nMb : M ≠ b := bx8.ne nM
      have nThb : Th ≠ b := (bx8.same s9).ne nTh
      have nMTh : M ≠ Th := ne_of_none e9 nTh
      have nMH : H M = none := hB8.free nMb nM
      have nThH : H Th = none := hB8.free nThb (Same.free s9 nTh)
      have bx11 := bx8.same s8'
      have hB11 : But b H H11 := hB8.trans (But.of s8')
      have hZ' := hZ.mono (tk s8')
      have hia' := hia.mono (tk s8')
      have his' := his.mono (tk s8')
      clear hE e9 e10 e11 s9 s10 s11 h11 nM nTh hZ hia his s8'
      have hil : its.length = f.1.items.length := by rw [his'.len, List.length_map]
      generalize hS : (match n with | 0 => 0 | m + 1 => 8 ^ m) = S
      refine ⟨_, rfl, za, _, 1, _, rfl, rfl, hZ'.sq, rfl, ia, rfl, ⟨_, hia'.sq⟩, ?_⟩
      refine for_it (walk_tup (K := K) (a := ia) (xs := its)) (fun i σ H' => ∃ y14, σ = [some (.ref b), some (.ref sc), some (.str kind), some (.ref sg), some (.int room), some (.ref aT), some (.ref ca), some (.ref na), some (.ref pn), some (.ref D), some (.ref D2), some (.ref za), some (.ref M), some (.ref Th), y14, none, none, none, none] ∧
          But b H H' ∧ Bx H' b ∧ TupK H11 H' ∧ ∃ (mv tvs : List V) (made : List (Str × Str)) (ths : List Tm), H' M = some (.lst mv) ∧ Tds K H' mv (made.map pairD) ∧ H' Th = some (.lst tvs) ∧ Tds K H' tvs (ths.map Tm.data) ∧ Fit (langT Tg hs) (envL ps) S n ((f.1.items.take i).filter notSign) ths made ∧
          made.length = nNames (f.1.items.take i) ∧ (∀ p ∈ made, p.1 ∈ nm) ∧ (made.map (·.1)).Nodup)
        ⟨none, rfl, hB11, bx11, TupK.refl _, [], [], [], [], eM, .nil, eTh, .nil, Fit.nil, rfl, (fun _ h => nomatch h), List.nodup_nil⟩ (fun i σ H' _ hP => ?_) (fun i x σ Hc Hd hi hP hY => ?_) (fun σ Hc hP => ?_)
      · obtain ⟨_, _, _, _, kt, _⟩ := hP
        exact sqt_mono hia'.sq kt
      · obtain ⟨y14, rfl, hBc, bxc, ktc, mv, tvs, made, ths, eM, tM, eTh, tTh, fit, ml, mn, mnd⟩ := hP
        obtain ⟨rfl, hx⟩ := hY
        obtain ⟨dd, hdd, dx⟩ := (his'.mono ktc).getV hx
        obtain ⟨it, hit, rfl⟩ := map_at hdd
        obtain ⟨a2, rest, rfl, hT2, hrest⟩ := Item.fields dx
        have hio := hfok i it hit
        have hitm := List.mem_of_getElem? hit
        have hi7 : i < 7 := by omega
        have hnn : nNames (f.1.items.take (i + 1)) ≤ 2 := Nat.le_trans (nNames_take_le _ _) hfn
        have hnt : nNames (f.1.items.take (i + 1)) = nNames (f.1.items.take i) + if isName it = true then 1 else 0 := by rw [take_succ' hit, nNames_snoc]
        have hdue : (f.1.items.take (i + 1)).filter notSign = (f.1.items.take i).filter notSign ++ [it].filter notSign := by rw [take_succ' hit, List.filter_append]
        have htl : ths.length ≤ 7 := by
          rw [← fit.len]
          have := List.length_filter_le notSign (f.1.items.take i)
          rw [List.length_take] at this
          omega
        have hvl : tvs.length = ths.length := by rw [tTh.len, List.length_map]
        have hml : mv.length = made.length := by rw [tM.len, List.length_map]
        have tst : ∀ z : Str, scal (V.str it.tag) (V.str z) = true := fun _ => rfl
        refine ⟨_, rfl, a2, _, 0, .str it.tag, rfl, rfl, hT2.sq, at_of (j := 0) rfl rfl, rfl, _, rfl, ?_⟩
        rw [decV]
        cases it with
        | sign z =>
          refine ifF (show decide (("sign" : Str) = "lit") = false by decide +kernel) ⟨_, rfl, a2, _, 0, .str "sign", rfl, rfl, hT2.sq, at_of (j := 0) rfl rfl, rfl, _, rfl, ?_⟩
          rw [decV]
          refine ifF (show decide (("sign" : Str) = "name") = false by decide +kernel) ⟨_, rfl, a2, _, 0, .str "sign", rfl, rfl, hT2.sq, at_of (j := 0) rfl rfl, rfl, _, rfl, ?_⟩
          rw [decV]
          refine ifF (show decide (("sign" : Str) = "term") = false by decide +kernel) ⟨_, rfl, hBc, bxc, ktc, mv, tvs, made, ths, eM, tM, eTh, tTh, ?_, ?_, mn, mnd⟩
          · rw [hdue]
            simpa [notSign] using fit
          · rw [hnt, ml]
            rfl
        | lit =>
          refine ifT (show decide (("lit" : Str) = "lit") = true by decide +kernel) ?_
          refine ⟨_, rfl, .inl ⟨rfl, _, .inl (.inl eTh)⟩, _, rfl, b, 10, rfl, bxc, by decide, by decide, fun u1 H12 u10 u11 hB12 bx12 => ?_⟩
          refine ⟨_, rfl, b, 1000, rfl, bx12, by decide, by decide, fun u2 H13 u20 u21 hB13 bx13 => ⟨lz 2, fun pl hpl => ?_⟩⟩
          generalize hE : upd _ pl _ = H14
          obtain ⟨s14, e14⟩ := mk hE hpl
          have nplb : pl ≠ b := bx13.ne hpl
          refine ⟨_, rfl, b, 2, rfl, bx13.same s14, by decide, by decide, fun u3 H15 u30 u31 hB15 bx15 => ?_⟩
          obtain ⟨u, hu1, hu2, hu3⟩ : ∃ u : Int, atI [V.int u1, V.int u2] u3 = some (.int u) ∧ 0 ≤ u ∧ u ≤ 999 := by
            have : u3 = 0 ∨ u3 = 1 := by omega
            rcases this with rfl | rfl
            · exact ⟨u1, rfl, u10, by omega⟩
            · exact ⟨u2, rfl, u20, by omega⟩
          have hBd : But b Hd H15 := ((hB12.trans hB13).trans (But.of s14)).trans hB15
          have kd5 := hBd.tup bxc
          have eTh5 := hBd _ _ nThb eTh
          have eM5 := hBd _ _ nMb eM
          refine ⟨pl, _, u3, .int u, rfl, rfl, .inl (.inl (hB15 _ _ nplb e14)), hu1, Th, tvs, _, rfl, rfl, eTh5, lzl (by omega), ?_⟩
          generalize hE : upd H15 Th _ = H16
          have e16 : H16 Th = some (.lst (tvs ++ [.int u])) := by rw [← hE]; exact upd_same
          have k16 : TupK H15 H16 := by rw [← hE]; exact TupK.put (TupK.refl _) eTh5 rfl
          have eM6 : H16 M = some (.lst mv) := by rw [← hE, upd_ne nMTh]; exact eM5
          have hB16 : But b H H16 := by rw [← hE]; exact (hBc.trans hBd).mut nThH
          have bx16 : Bx H16 b := by rw [← hE]; exact bx15.keep nThb.symm
          have kd6 := kd5.trans k16
          refine ⟨_, rfl, a2, _, 0, .str "lit", rfl, rfl, (hT2.mono kd6).sq, at_of (j := 0) rfl rfl, rfl, _, rfl, ?_⟩
          rw [decV]
          refine ifF (show decide (("lit" : Str) = "name") = false by decide +kernel) ⟨_, rfl, a2, _, 0, .str "lit", rfl, rfl, (hT2.mono kd6).sq, at_of (j := 0) rfl rfl, rfl, _, rfl, ?_⟩
          rw [decV]
          refine ifF (show decide (("lit" : Str) = "term") = false by decide +kernel) ⟨_, rfl, hB16, bx16, ktc.trans kd6, mv, tvs ++ [.int u], made, ths ++ [.num u], eM6, tM.mono kd6, e16, ?_, ?_, ?_, mn, mnd⟩
          · rw [List.map_append]
            exact (tTh.mono kd6).snoc (.int u)
          · rw [hdue]
            have := fit.add (it := .lit) (t := .num u) (ms := []) rfl (by simp [litOk, hu2, hu3]) rfl (fun _ h => nomatch h) (fun _ _ h => nomatch h) (fun h => nomatch h) (fun _ => by simp [Tm.dep])
            rw [List.append_nil] at this
            exact this
          · rw [hnt, ml]
            rfl
        | name k =>
          have hr2 : ¬ room < 2 := fun hr => by
            have := hlit hr _ hitm
            cases this
          refine ifF (show decide (("name" : Str) = "lit") = false by decide +kernel) ⟨_, rfl, a2, _, 0, .str "name", rfl, rfl, hT2.sq, at_of (j := 0) rfl rfl, rfl, _, rfl, ?_⟩
          rw [decV]
          refine ifT (show decide (("name" : Str) = "name") = true by decide +kernel) ?_
          obtain ⟨vk, _, rfl, hvk, hr0⟩ := hrest.cons_inv
          obtain rfl := hvk.strI
          obtain rfl := hr0.nil_inv
          have nml3 : 3 ≤ nm.length := nml.resolve_right hr2
          have ena := hBc _ _ nna hna
          refine ⟨_, rfl, .inl ⟨rfl, _, .inl (.inl eM)⟩, _, rfl, _, rfl, na, rfl, ⟨_, .inl (.inl ena)⟩, fun D4 nD4 => lc_it (walk_list (xs := nm.map V.str)) (fun j H' => Same Hd H' ∧ H' D4 = some (.lst (((nm.take j).filter fun x => decide (x ∉ made.map (·.1))).map .str))) ⟨same_new nD4, upd_same⟩ (fun j H' _ hP => Same.seq hP.1 (.inl (.inl ena))) (fun j x H5 H6 hj hP hY => ?_) (fun H6 hP => ?_)⟩
          · obtain ⟨sa, ea⟩ := hP
            obtain ⟨rfl, hx4⟩ := hY
            obtain ⟨z, hz, rfl⟩ := map_at hx4
            have eM6 := sa _ _ eM
            refine ⟨rfl, _, rfl, _, rfl, M, rfl, ⟨_, .inl (.inl eM6)⟩, fun D5 nD5 => lc_it (walk_list (K := K) (a := M) (xs := mv)) (fun l H' => Same H6 H' ∧ H' D5 = some (.lst (((made.take l).map (·.1)).map .str))) ⟨same_new nD5, upd_same⟩ (fun l H' _ hP => Same.seq hP.1 (.inl (.inl eM6))) (fun l x2 H7 H8 hl hP hY => ?_) (fun H7 hP => ?_)⟩
            · obtain ⟨sb, eb⟩ := hP
              obtain ⟨rfl, hx2⟩ := hY
              obtain ⟨d2, hd2, dx2⟩ := (tM.mono (tk (sa.trans sb))).getV hx2
              obtain ⟨q0, hq0, rfl⟩ := map_at hd2
              obtain ⟨e, u1, u2, rfl, hTe, k1, k2⟩ := Td.i2 dx2
              obtain rfl := k1.strI
              refine ⟨e, _, rfl, hTe.sq, rfl, _, _, rfl, _, _, rfl, rfl, rfl, _, rfl, _, eb, ?_, smut sb nD5, ?_⟩
              · rw [List.length_map, List.length_map, List.length_take]
                exact lzl (by have := nNames_take_le f.1.items i; omega)
              · rw [upd_same, take_succ' hq0, List.map_append, List.map_append]
                rfl
            obtain ⟨sb, eb⟩ := hP
            rw [show made.take mv.length = made from List.take_of_length_le (by omega)] at eb
            refine ⟨D5, _, rfl, .inl (.inl (.inl eb)), rfl, flat_strs _, _, rfl, ?_⟩
            show if (!inV (.str z) ((made.map (·.1)).map V.str)) = true then _ else _
            rw [inV_strs]
            have keep : (nm.take (j + 1)).filter (fun x => decide (x ∉ made.map (·.1))) = (nm.take j).filter (fun x => decide (x ∉ made.map (·.1))) ++ [z].filter (fun x => decide (x ∉ made.map (·.1))) := by
              rw [take_succ' hz, List.filter_append]
            by_cases hzm : z ∈ made.map (·.1)
            · refine ifF (by simp [hzm]) ⟨sa.trans sb, ?_⟩
              rw [sb _ _ ea, keep, List.filter_cons_of_neg (by simp [hzm])]
              simp
            · refine ifT (by simp [hzm]) ⟨_, rfl, _, sb _ _ ea, ?_, smut (sa.trans sb) nD4, ?_⟩
              · rw [List.length_map]
                have := List.length_filter_le (fun x => decide (x ∉ made.map (·.1))) (nm.take j)
                rw [List.length_take] at this
                exact lzl (by omega)
              · rw [upd_same, keep, List.filter_cons_of_pos (by simp [hzm]), List.map_append]
                rfl
          obtain ⟨sa, ea⟩ := hP
          rw [show nm.take (nm.map V.str).length = nm from List.take_of_length_le (by rw [List.length_map]; exact Nat.le_refl _)] at ea
          have nD4b : D4 ≠ b := bxc.ne nD4
          have hpig := filter_left (m := made.map (·.1)) nd
          have hmade2 : made.length ≤ 1 := by
            have e : nNames (f.1.items.take i) + 1 ≤ 2 := by rw [hnt] at hnn; exact hnn
            omega
          rw [List.length_map] at hpig
          refine ⟨b, .ref D4, _, rfl, bxc.same sa, .inl ⟨D4, rfl, nD4b, ea⟩, by rw [List.length_map]; omega, ?_, fun x H7 hx7 hB7 bx7 => ?_⟩
          · rw [List.length_map]
            have := List.length_filter_le (fun x => decide (x ∉ made.map (·.1))) nm
            omega
          obtain ⟨y, hy, rfl⟩ := List.mem_map.mp hx7
          obtain ⟨hy1, hy2⟩ := List.mem_filter.mp hy
          have hy3 : y ∉ made.map (·.1) := of_decide_eq_true hy2
          have hBd : But b Hd H7 := (But.of sa).trans hB7
          have kd7 := hBd.tup bxc
          refine ⟨_, rfl, a2, _, 1, .str k, rfl, rfl, (hT2.mono kd7).sq, at_of (j := 1) rfl rfl, lz 2, fun pp hpp => ?_⟩
          generalize hE : upd _ pp _ = H8
          obtain ⟨s8, e8⟩ := mk hE hpp
          have hBd8 : But b Hd H8 := hBd.trans (But.of s8)
          have eM8 := hBd8 _ _ nMb eM
          have eTh8 := hBd8 _ _ nThb eTh
          refine ⟨M, mv, _, rfl, rfl, eM8, lzl (by omega), ?_⟩
          generalize hE : upd H8 M _ = H9
          have eM9 : H9 M = some (.lst (mv ++ [.ref pp])) := by rw [← hE]; exact upd_same
          have k89 : TupK H8 H9 := by rw [← hE]; exact TupK.put (TupK.refl _) eM8 rfl
          have eTh9 : H9 Th = some (.lst tvs) := by rw [← hE, upd_ne nMTh.symm]; exact eTh8
          have hB9 : But b H H9 := by rw [← hE]; exact (hBc.trans hBd8).mut nMH
          have bx9 : Bx H9 b := by rw [← hE]; exact (bx7.same s8).keep nMb.symm
          have epp : H9 pp = some (.tup [.str y, .str k]) := k89 _ _ rfl e8
          have kd9 : TupK Hd H9 := (hBd8.tup bxc).trans k89
          refine ⟨_, rfl, .inl ⟨rfl, _, .inl (.inl eTh9)⟩, _, rfl, _, rfl, M, _, _, .ref pp, rfl, rfl, .inl (.inl eM9), atI_last _ _, pp, _, 0, .str y, rfl, rfl, .inl (.inl epp), rfl, Th, tvs, _, rfl, rfl, eTh9, lzl (by omega), ?_⟩
          generalize hE : upd H9 Th _ = H10
          have eTh10 : H10 Th = some (.lst (tvs ++ [.str y])) := by rw [← hE]; exact upd_same
          have k910 : TupK H9 H10 := by rw [← hE]; exact TupK.put (TupK.refl _) eTh9 rfl
          have eM10 : H10 M = some (.lst (mv ++ [.ref pp])) := by rw [← hE, upd_ne nMTh]; exact eM9
          have hB10 : But b H H10 := by rw [← hE]; exact hB9.mut nThH
          have bx10 : Bx H10 b := by rw [← hE]; exact bx9.keep nThb.symm
          have kd10 := kd9.trans k910
          refine ⟨_, rfl, a2, _, 0, .str "name", rfl, rfl, (hT2.mono kd10).sq, at_of (j := 0) rfl rfl, rfl, _, rfl, ?_⟩
          rw [decV]
          refine ifF (show decide (("name" : Str) = "term") = false by decide +kernel) ⟨_, rfl, hB10, bx10, ktc.trans kd10, mv ++ [.ref pp], tvs ++ [.str y], made ++ [(y, k)], ths ++ [.nm y], eM10, ?_, eTh10, ?_, ?_, ?_, fun p hp => ?_, ?_⟩
          · rw [List.map_append]
            exact (tM.mono kd10).snoc (.at (k910 _ _ rfl epp) (.cons (.str _) (.cons (.str _) .nil)))
          · rw [List.map_append]
            exact (tTh.mono kd10).snoc (.str y)
          · rw [hdue]
            exact fit.add (it := .name k) (t := .nm y) (ms := [(y, k)]) rfl rfl rfl (fun _ h => nomatch h) (fun _ _ h => nomatch h) (fun h => nomatch h) (fun _ => by simp [Tm.dep])
          · rw [hnt, List.length_append, ml]
            rfl
          · rcases List.mem_append.mp hp with hp | hp
            · exact mn p hp
            · rw [List.mem_singleton] at hp
              rw [hp]
              exact hy1
          · rw [List.map_append, List.nodup_append]
            refine ⟨mnd, by simp, fun a ha c hc e => ?_⟩
            have : c = y := by simpa using hc
            rw [e, this] at ha
            exact hy3 ha
        | term k os =>
          have hr2 : ¬ room < 2 := fun hr => by
            have := hlit hr _ hitm
            cases this
          refine ifF (show decide (("term" : Str) = "lit") = false by decide +kernel) ⟨_, rfl, a2, _, 0, .str "term", rfl, rfl, hT2.sq, at_of (j := 0) rfl rfl, rfl, _, rfl, ?_⟩
          rw [decV]
          refine ifF (show decide (("term" : Str) = "name") = false by decide +kernel) ⟨_, rfl, a2, _, 0, .str "term", rfl, rfl, hT2.sq, at_of (j := 0) rfl rfl, rfl, _, rfl, ?_⟩
          rw [decV]
          refine ifT (show decide (("term" : Str) = "term") = true by decide +kernel) ?_
          obtain ⟨vk, _, rfl, hvk, hr0⟩ := hrest.cons_inv
          obtain rfl := hvk.strI
          obtain ⟨vo, _, rfl, hvo, hr1⟩ := hr0.cons_inv
          obtain rfl := hr1.nil_inv
          obtain ⟨oa, ov, rfl, hoa, hos⟩ := hvo.inv
          obtain ⟨hko, hjo, hlo⟩ := hio
          cases n with
          | zero => exact absurd r1 hr2
          | succ m =>
          have hS' : S = 8 ^ m := hS.symm
          have esg := hBc _ _ nsg hsg
          have hovl : ov.length = os.length := by rw [hos.len, List.length_map]
          refine ⟨_, rfl, .inl ⟨rfl, _, .inl (.inl eTh)⟩, _, rfl, _, rfl, _, rfl, a2, _, 1, .str k, rfl, rfl, hT2.sq, at_of (j := 1) rfl rfl, _, rfl, _, rfl, a2, _, 2, .ref oa, rfl, rfl, hT2.sq, at_of (j := 2) rfl rfl, oa, rfl, ⟨_, hoa.sq⟩, fun D6 nD6 => lc_it (walk_tup (K := K) (a := oa) (xs := ov)) (fun j H' => Same Hd H' ∧ ∃ acc, H' D6 = some (.lst acc) ∧ Tds K H' acc ((pick made (os.take j)).map pairD)) ⟨same_new nD6, [], upd_same, .nil⟩ (fun j H' _ hP => sqt_mono hoa.sq (tk hP.1)) (fun j x H5 H6 hj hP hY => ?_) (fun H6 hP => ?_)⟩
          · obtain ⟨sa, acc, ea, ta⟩ := hP
            obtain ⟨rfl, hx6⟩ := hY
            obtain ⟨d6, hd6, dx6⟩ := hos.getV hx6
            obtain ⟨j0, hj0, rfl⟩ := map_at hd6
            obtain rfl := dx6.intI
            have hj1 : j0 < made.length := by
              rw [ml]
              exact hjo j0 (List.mem_of_getElem? hj0)
            obtain ⟨v6, hv6, dv6⟩ := (tM.mono (tk sa)).get (i := j0) (d := pairD made[j0]) (by rw [List.getElem?_map, List.getElem?_eq_getElem hj1]; rfl)
            refine ⟨rfl, _, rfl, _, rfl, M, mv, _, v6, rfl, rfl, .inl (.inl (sa _ _ eM)), atI_nat hv6, acc, ea, ?_, smut sa nD6, _, upd_same, ?_⟩
            · rw [ta.len, List.length_map]
              have : (pick made (os.take j)).length ≤ (os.take j).length := List.length_filterMap_le _ _
              rw [List.length_take] at this
              exact lzl (by omega)
            · rw [pick_snoc hj0 (List.getElem?_eq_getElem hj1), List.map_append]
              exact Tds.mono (TupK.put (TupK.refl _) ea rfl) (ta.snoc dv6)
          obtain ⟨sa, acc, ea, ta⟩ := hP
          rw [show os.take ov.length = os from List.take_of_length_le (by omega)] at ta
          have hpl : (pick made os).length ≤ os.length := List.length_filterMap_le _ _
          have hal : acc.length = (pick made os).length := by rw [ta.len, List.length_map]
          have hasl : (as.map V.ref).length = ps.length := by rw [hss.len, List.length_map]
          refine ⟨sg, D6, _, acc, rfl, rfl, sa _ _ esg, ea, lz _ (by omega), fun p hp => ?_⟩
          generalize hE : upd _ p _ = H7
          obtain ⟨s7, e7⟩ := mk hE hp
          have s77 := sa.trans s7
          have hB7 : But b H H7 := hBc.trans (But.of s77)
          have tps : Tds K H7 (as.map V.ref ++ acc) ((ps ++ pick made os).map pairD) := by
            rw [List.map_append]
            exact (hss.mono (hB7.tup bx)).append (ta.mono (tk s7))
          have dr := d.but hB7 (bxc.same s77) hko hr2 e7 tps (by rw [List.length_append]; omega) (fun p hp => by
            rcases List.mem_append.mp hp with hp | hp
            · exact psn p hp
            · unfold pick at hp
              obtain ⟨j0, _, hj0⟩ := List.mem_filterMap.mp hp
              exact nmn _ (mn p (List.mem_of_getElem? hj0)))
          refine ⟨_, rfl, _, _, rfl, rfl, ⟨by decide, by decide⟩, b, sc, p, ca, na, _, room / 2, k, Tg, hs, cs, _, nm, ps ++ pick made os, rfl, dr, fun v H8 t hB8 bx8' dt ht hg hp' hd' => ?_⟩
          have hBd8 : But b Hd H8 := (But.of s77).trans hB8
          have eTh8 := hBd8 _ _ nThb eTh
          have eM8 := hBd8 _ _ nMb eM
          refine ⟨Th, tvs, v, rfl, rfl, eTh8, lzl (by omega), ?_⟩
          generalize hE : upd H8 Th _ = H9
          have eTh9 : H9 Th = some (.lst (tvs ++ [v])) := by rw [← hE]; exact upd_same
          have k89 : TupK H8 H9 := by rw [← hE]; exact TupK.put (TupK.refl _) eTh8 rfl
          have eM9 : H9 M = some (.lst mv) := by rw [← hE, upd_ne nMTh]; exact eM8
          have hB9 : But b H H9 := by rw [← hE]; exact (hBc.trans hBd8).mut nThH
          have bx9 : Bx H9 b := by rw [← hE]; exact bx8'.keep nThb.symm
          have kd9 : TupK Hd H9 := (hBd8.tup bxc).trans k89
          refine ⟨_, rfl, hB9, bx9, ktc.trans kd9, mv, tvs ++ [v], made, ths ++ [t], eM9, tM.mono kd9, eTh9, ?_, ?_, ?_, mn, mnd⟩
          · rw [List.map_append]
            exact (tTh.mono kd9).snoc (dt.mono k89)
          · rw [hdue]
            have henv : envL (ps ++ pick made os) = opened (envL ps) made os := by rw [envL_app, opened_pick]
            rw [henv] at hg
            have := fit.add (it := .term k os) (t := t) (ms := []) ht (by cases t <;> first | rfl | cases ht) (by cases t <;> first | rfl | cases ht) (fun x hx => by
              rw [List.append_nil] at hx
              have e := Option.some.inj hx
              rw [← e]
              exact hg) (fun k' os' e j hj => by
              cases e
              rw [ml]
              exact hjo j hj) (fun _ => ⟨by rw [hS']; exact hp', hd'⟩) (fun h => by rw [ht] at h; cases h)
            rw [List.append_nil] at this
            exact this
          · rw [hnt, ml]
            rfl
      · obtain ⟨y14, rfl, hBc, bxc, ktc, mv, tvs, made, ths, eM, tM, eTh, tTh, fit, ml, mn, mnd⟩ := hP
        rw [show f.1.items.take its.length = f.1.items from List.take_of_length_le (by omega)] at fit ml
        have kt11 := hBc.tup bx
        refine ⟨_, rfl, aT, _, 1, _, rfl, rfl, (hT.mono kt11).sq, rfl, _, rfl, za, _, 0, _, rfl, rfl, (hZ'.mono ktc).sq, rfl, _, rfl, Th, tvs, rfl, .inl eTh, fun p12 H12 s12 h12 => ⟨lz 4, fun p13 h13 => ?_⟩⟩
        generalize hE : upd _ p13 _ = H13
        obtain ⟨s13, e13⟩ := mk hE h13
        have htl : ths.length ≤ 7 := by
          rw [← fit.len]
          have := List.length_filter_le notSign f.1.items
          omega
        have hsz := fit.sz
        have hdp := fit.dp
        refine q _ _ (.use Tg.name f.1.head ths) (hBc.trans (But.of (s12.trans s13))) (bxc.same (s12.trans s13)) ?_ rfl ?_ ?_ ?_
        · unfold Tm.data
          rw [dataL_map]
          exact .at e13 (.cons (.str _) (.cons (.str _) (.cons (.str _) (.cons (.tup (h12.mono (tk s13)) (tTh.mono (tk (s12.trans s13)))) .nil))))
        · refine use_good (L := langT Tg hs) (lang_form ok hm) fit ?_ hfkd
          unfold bindOk
          rw [decide_eq_true mnd, Bool.and_true, List.all_eq_true]
          exact fun p hp => nmn _ (mn p hp)
        · simp only [psize]
          have e1 : ths.length * S ≤ 7 * S := Nat.mul_le_mul_right _ htl
          cases n with
          | zero =>
            have : S = 0 := hS.symm
            subst this
            show _ ≤ 1
            omega
          | succ m =>
            have : S = 8 ^ m := hS.symm
            subst this
            have e2 : 8 ^ (m + 1) = 8 ^ m * 8 := rfl
            have e3 : 1 ≤ 8 ^ m := Nat.one_le_pow m 8 (by decide)
            omega
        · simp only [Tm.dep]
          omega
theorem ok_rec (T : TX K mg) : ∀ n, Ok P w K mg base CX0 (3 + n) "_law_draw" psDraw (spRec K n)
  | 0 => draw_binds T fun _ _ _ _ h => h
  | n + 1 => draw_step T n (ok_rec T n)
theorem ok_Ldraw (T : TX K mg) (n : Nat) : Ok P w K mg base CX0 (4 + n) "_law_draw" psDraw (spDraw K n) := by
  have h := ok_rec (P := P) (w := w) (base := base) T (n + 1)
  rw [show 3 + (n + 1) = 4 + n by omega] at h
  exact h
end K27

set_option maxHeartbeats 8000000
namespace K27
open PySem PySem.Spec PyProof.Rows L2
theorem cut_from {α : Type} {f : α → V} {l : List α} {a : Nat} (h : a ≤ l.length) : cutV (l.map f) (some (a : Int)) none = (l.drop a).map f := by
  unfold cutV
  rw [HT.sIx_nat, HT.sIx_none, List.length_map, Nat.min_eq_left h, ← List.map_drop]
  rw [List.take_of_length_le (by rw [List.length_map, List.length_drop]; exact Nat.le_refl _)]
theorem cut_mid {α : Type} {f : α → V} {l : List α} {a c : Nat} (h : a ≤ l.length) : cutV (l.map f) (some (a : Int)) (some (c : Int)) = ((l.drop a).take (min c l.length - a)).map f := by
  unfold cutV
  rw [HT.sIx_nat, HT.sIx_nat, List.length_map, Nat.min_eq_left h, ← List.map_drop, ← List.map_take]
/-- all but b and f -/
def But2 (b f : Addr) (H H' : Hp) : Prop := ∀ a o, a ≠ b → a ≠ f → H a = some o → H' a = some o
theorem But2.of {b f : Addr} {H H' : Hp} (h : But b H H') : But2 b f H H' := fun a o n _ e => h a o n e
theorem But2.trans {b f : Addr} {H H1 H2 : Hp} (x : But2 b f H H1) (y : But2 b f H1 H2) : But2 b f H H2 := fun a o n m e => y a o n m (x a o n m e)
theorem But2.put {b f : Addr} {H H' : Hp} {o : HO} (x : But2 b f H H') : But2 b f H (upd H' f o) := fun a u n m e => by
  rw [upd_ne m]
  exact x a u n m e
theorem But2.new {b f : Addr} {H0 H H' : Hp} (x : But2 b f H H') (h0 : But b H0 H) (hf : H0 f = none) : But b H0 H' := fun a o n e => x a o n (ne_of_none e hf) (h0 a o n e)
variable {P : Program} {w : World} {K : PySem.W.Frag} {mg : Str → Option Value} {base : Heap}
def spNewTongue (K : PySem.W.Frag) : Sp := fun vs H Q _ => ∃ (b : Addr) (v : V) (name below : Str) (tw : List It), vs = [.ref b, v, .str name, .str below] ∧ Bx H b ∧ SeqTd K H v (tw.map It.data) ∧ tw.length ≤ 100 ∧ TongOk (tongueOf tw below) ∧
  ∀ r H' t, But b H H' → Bx H' b → Td K H' r t.data → TongOk t → t.name = name → t.below = below → Q r H'
abbrev N_Lnew_tongue : List Str := ["_law_box_here", "_law_items_here", "_law_name", "_law_below", "_law_base", "_law_heads_here", "_law_names", "_law_forms", "_law_kinds", "_law_faults", "_law_own", "_law_k", "_law_kind", "_law_its", "_law_some", "_law_tells", "_law_x", "_law_one", "_law_fault"]
theorem sc_Lnew_tongue : FnScope N_Lnew_tongue ["_law_box_here", "_law_items_here", "_law_name", "_law_below"] (defScope s_Lnew_tongue) := ⟨rfl, rfl, rfl, by decide +kernel, rfl, by decide +kernel, by decide +kernel⟩
theorem ok_Lnew_tongue (T : TX K mg) : Ok P w K mg base CX0 5 "_law_new_tongue" ["_law_box_here", "_law_items_here", "_law_name", "_law_below"] (spNewTongue K) := by
  refine Ok.mk' T T.m_Lnew_tongue T.f_Lnew_tongue sc_Lnew_tongue (fun vs H Q E h => ?_) (fun _ _ _ _ _ _ us hl => match us, hl with | [_, _, _, _], _ => rfl) (fun cdv A outer s H vs Q E hr h => ?_)
  · obtain ⟨b, v, name, below, tw, rfl, _⟩ := h
    rfl
  · obtain ⟨b, v, name, below, tw, rfl, bx, hv, htl, okB, q⟩ := h
    refine ⟨_, (pss_cons (ps_asg (pe_tup (pa_cons (pe_ok (ok_Ltongue T) hr (by decide) (by rfl) (pa_cons (pv 1) (pa_cons (pv 3) pa_nil)) pass0) (pa_cons (pe_ok (ok_Lsigns T) hr (by decide) (by rfl) (pa_cons (pv 0) (pa_cons pe_int pa_nil)) pass0) (pa_cons (pe_ok (ok_Lpool T) hr (by decide) (by rfl) (pa_cons (pv 0) (pa_cons pe_int pa_nil)) pass0) (pa_cons (pe_lst pa_nil) pa_nil))))) (pg_tup rfl (pgs_cons (pg_name (i := 4) sc_Lnew_tongue.nd rfl (.inr rfl)) (pgs_cons (pg_name (i := 5) sc_Lnew_tongue.nd rfl (.inl rfl)) (pgs_cons (pg_name (i := 6) sc_Lnew_tongue.nd rfl (.inr rfl)) (pgs_cons (pg_name (i := 7) sc_Lnew_tongue.nd rfl (.inl rfl)) pgs_nil))))))
      (pss_cons (ps_set (i := 6) sc_Lnew_tongue.nd rfl (Or.inr rfl) (pe_op op_cat (pe_ix ix_list (pe_lst (pa_cons (pe_lst (pa_cons pe_str pa_nil)) (pa_cons (pe_lst pa_nil) pa_nil))) (pe_callB (call_min2 rfl) (by rfl) T.n_min (by decide +kernel) (pa_cons pe_int (pa_cons (pe_ok (ok_Ltake T) hr (by decide) (by rfl) (pa_cons (pv 0) (pa_cons pe_int pa_nil)) pass0) pa_nil))) (fun _ _ => rfl)) (pe_lc (own := [("_law_x", 16)]) (g := gName 16) (by rfl) sc_Lnew_tongue.nd (pi_list (pv 6)) (blkOk_by (own := [("_law_x", 16)]) (N := N_Lnew_tongue) (sc := defScope s_Lnew_tongue) (by decide +kernel)) (fun _ _ _ _ _ => (pg_name (i := 16) sc_Lnew_tongue.nd rfl (Or.inl rfl))) (fun _ _ _ _ _ => pts_one (pt_cmpR op_ne (pv 16) pe_str (nomark _))) (fun _ _ _ _ _ => (pv 16)))))
      (pss_cons (ps_set (i := 8) sc_Lnew_tongue.nd rfl (Or.inl rfl) (pe_callTy call_tuple_of (by rfl) T.n_tuple (by decide +kernel) (pa_cons (pe_lc (own := [("_law_k", 11)]) (g := gName 11) (tt := tYes) (by rfl) sc_Lnew_tongue.nd (pi_range1 (by rfl) T.n_range (pa_cons (pe_op op_add pe_int (pe_ok (ok_Ltake T) hr (by decide) (by rfl) (pa_cons (pv 0) (pa_cons pe_int pa_nil)) pass0)) pa_nil)) (blkOk_by (own := [("_law_k", 11)]) (N := N_Lnew_tongue) (sc := defScope s_Lnew_tongue) (by decide +kernel)) (fun _ _ _ _ _ => (pg_name (i := 11) sc_Lnew_tongue.nd rfl (Or.inl rfl))) (fun _ _ _ _ _ => pts_nil) (fun _ _ _ _ _ => (pe_tup (pa_cons (pe_ix (ix_listK (K := K)) (pv 6) (pv 11) (fun _ _ => rfl)) (pa_cons (pe_ix (ix_tupK (K := K)) (pe_ok (ok_Lone_of T) hr (by decide) (by rfl) (pa_cons (pv 0) (pa_cons (pe_ix (ix_tupK (K := K)) (pv 4) pe_int (fun _ _ => rfl)) pa_nil)) pass0) pe_int (fun _ _ => rfl)) pa_nil))))) pa_nil)))
      (pss_cons (ps_asg (pe_tup (pa_cons (pe_callTy call_tuple_of (by rfl) T.n_tuple (by decide +kernel) (pa_cons (pe_slice sl_list (pv 6) (po_some pe_int) (po_some (pe_op op_add pe_int (pe_ok (ok_Ltake T) hr (by decide) (by rfl) (pa_cons (pv 0) (pa_cons pe_int pa_nil)) pass0)))) pa_nil)) (pa_cons (pe_lc (own := [("_law_its", 13), ("_law_one", 17)]) (g := gTup K 2 (gCons (gName 17) (gCons (gName 13) gNil))) (tt := tYes) (by rfl) sc_Lnew_tongue.nd (pi_tup (pv 8)) (blkOk_by (own := [("_law_its", 13), ("_law_one", 17)]) (N := N_Lnew_tongue) (sc := defScope s_Lnew_tongue) (by decide +kernel)) (fun _ _ _ _ _ => (pg_tup rfl (pgs_cons (pg_name (i := 17) sc_Lnew_tongue.nd rfl (Or.inl rfl)) (pgs_cons (pg_name (i := 13) sc_Lnew_tongue.nd rfl (Or.inl rfl)) pgs_nil)))) (fun _ _ _ _ _ => pts_nil) (fun _ _ _ _ _ => (pv 17))) pa_nil))) (pg_tup rfl (pgs_cons (pg_name (i := 9) sc_Lnew_tongue.nd rfl (.inr rfl)) (pgs_cons (pg_name (i := 10) sc_Lnew_tongue.nd rfl (.inl rfl)) pgs_nil))))
      (pss_cons (ps_for PassesOwn.never rfl (pi_range1 (by rfl) T.n_range (pa_cons (pe_op op_add (pe_op op_add (pe_callB call_len_seq (by rfl) T.n_len PySem.boot_len (pa_cons (pv 8) pa_nil)) pe_int) (pe_ok (ok_Ltake T) hr (by decide) (by rfl) (pa_cons (pv 0) (pa_cons pe_int pa_nil)) pass0)) pa_nil)) (pg_name (i := 11) sc_Lnew_tongue.nd rfl (.inl rfl))
        (pss_cons (ps_asg (pe_tup (pa_cons (pe_ok (ok_Lone_of T) hr (by decide) (by rfl) (pa_cons (pv 0) (pa_cons (pv 8) pa_nil)) pass0) (pa_cons (pe_ok (ok_Litems T) hr (by decide) (by rfl) (pa_cons (pv 0) (pa_cons (pv 10) (pa_cons (pe_slice sl_list (pv 5) (po_some pe_int) po_none) pa_nil))) pass0) pa_nil))) (pg_tup rfl (pgs_cons (pg_tup rfl (pgs_cons (pg_name (i := 12) sc_Lnew_tongue.nd rfl (.inl rfl)) (pgs_cons (pg_name (i := 13) sc_Lnew_tongue.nd rfl (.inl rfl)) pgs_nil))) (pgs_cons (pg_name (i := 14) sc_Lnew_tongue.nd rfl (.inl rfl)) pgs_nil))))
        (Evl.pss_cut (ps_if (pt_cmpR op_lt (pv 11) (pe_callB call_len_seq (by rfl) T.n_len PySem.boot_len (pa_cons (pv 8) pa_nil)) (nomark _))
          (pss_one (ps_asg (pe_tup (pa_cons (pe_ix ix_tup (pv 8) (pv 11) (fun _ _ => rfl)) (pa_cons (pe_op op_repT0 (pe_tup (pa_cons (pe_tup (pa_cons pe_str pa_nil)) pa_nil)) (pe_ok (ok_Ltake T) hr (by decide) (by rfl) (pa_cons (pv 0) (pa_cons pe_int pa_nil)) pass0)) pa_nil))) (pg_tup rfl (pgs_cons (pg_tup rfl (pgs_cons (pg_name (i := 12) sc_Lnew_tongue.nd rfl (.inl rfl)) (pgs_cons (pg_name (i := 13) sc_Lnew_tongue.nd rfl (.inl rfl)) pgs_nil))) (pgs_cons (pg_name (i := 14) sc_Lnew_tongue.nd rfl (.inl rfl)) pgs_nil)))))
          pss_nil)
        (pss_one (ps_expr (pe_bm PySem.F.plainAttrs_list PySem.F.slot_list_append PySem.F.type_list_append mt_append (pv 7) (pa_cons (pe_tup (pa_cons (pe_ix ix_list (pv 5) (pv 11) (fun _ _ => rfl)) (pa_cons (pv 14) (pa_cons (pv 12) (pa_cons (pe_ok (ok_Ldraw T 0) hr (by decide) (by rfl) (pa_cons (pv 0) (pa_cons (pe_tup (pa_cons (pv 4) (pa_cons (pe_lst pa_nil) (pa_cons (pe_lst pa_nil) pa_nil)))) (pa_cons (pv 13) (pa_cons (pe_lst pa_nil) (pa_cons pe_int pa_nil))))) pass0) pa_nil))))) pa_nil)))))))
      (pss_cons (ps_set (i := 15) sc_Lnew_tongue.nd rfl (Or.inl rfl) (pe_callTy call_tuple_of (by rfl) T.n_tuple (by decide +kernel) (pa_cons (pe_lc (own := [("_law_fault", 18)]) (g := gName 18) (tt := tYes) (by rfl) sc_Lnew_tongue.nd (pi_tup (pe_ix ix_tup (pv 4) pe_int (fun _ _ => rfl))) (blkOk_by (own := [("_law_fault", 18)]) (N := N_Lnew_tongue) (sc := defScope s_Lnew_tongue) (by decide +kernel)) (fun _ _ _ _ _ => (pg_name (i := 18) sc_Lnew_tongue.nd rfl (Or.inl rfl))) (fun _ _ _ _ _ => pts_nil) (fun _ _ _ _ _ => (pe_ok (ok_Lone_of T) hr (by decide) (by rfl) (pa_cons (pv 0) (pa_cons (pv 9) pa_nil)) pass0))) pa_nil)))
      (pss_one (ps_ret (pe_tup (pa_cons pe_str (pa_cons (pv 2) (pa_cons (pv 3) (pa_cons (pv 8) (pa_cons (pv 9) (pa_cons (pv 15) (pa_cons (pe_callTy call_tuple_of (by rfl) T.n_tuple (by decide +kernel) (pa_cons (pv 7) pa_nil)) pa_nil)))))))))))))))), ?_⟩
    -- the base, the signs, the names, the list of forms
    refine ⟨_, rfl, _, rfl, v, below, tw, rfl, hv, by omega, fun bv H1 s1 dB => ?_⟩
    generalize tongueOf tw below = B at okB dB
    have bx1 := bx.same s1
    refine ⟨_, rfl, b, 9, rfl, bx1, by decide, fun HL H2 sg hB2 bx2 nHL eHL lsg ndsg => ?_⟩
    have nHLb : HL ≠ b := bx1.ne nHL
    refine ⟨_, rfl, b, 5, rfl, bx2, by decide, fun PL H3 nms hB3 bx3 nPL ePL lnm ndnm hnm => ?_⟩
    have nPLb : PL ≠ b := bx2.ne nPL
    refine ⟨lz 0, fun FL nFL => ?_⟩
    generalize hE : upd _ FL _ = H4
    obtain ⟨s4, e4⟩ := mk hE nFL
    refine ⟨lz 4, fun p5 h5 => ?_⟩
    generalize hE : upd _ p5 _ = H5
    obtain ⟨s5, e5⟩ := mk hE h5
    refine ⟨p5, _, rfl, .inl (.inl e5), rfl, _, _, rfl, _, _, rfl, _, _, rfl, _, _, rfl, rfl, ?_⟩
    have hB12 : But b H1 H5 := (hB2.trans hB3).trans (But.of (s4.trans s5))
    have hB5 : But b H H5 := (But.of s1).trans hB12
    have bx5 := bx3.same (s4.trans s5)
    have dB5 := dB.mono (hB12.tup bx1)
    have eHL5 := (hB3.trans (But.of (s4.trans s5))) _ _ nHLb eHL
    have ePL5 := (s4.trans s5) _ _ ePL
    have eFL5 := s5 _ _ e4
    have nFLb : FL ≠ b := bx3.ne nFL
    have nFLH : H FL = none := Same.free s1 (hB2.free nFLb (hB3.free nFLb nFL))
    have nFH : FL ≠ HL := (ne_of_none (hB3 _ _ nHLb eHL) nFL).symm
    clear hB12 s1 s4 s5 e4 e5 h5 hE dB nFL nPL nHL hB2 hB3 bx1 bx2 bx3
    obtain ⟨aB, b1, b2, b3, b4, b5, b6, b7, rfl, hTB, t1, t2, t3, t4, t5, t6, t7⟩ := Td.i7 dB5
    obtain ⟨akb, kbv, rfl, hakb, hkb⟩ := Td.inv t4
    obtain ⟨afl, flv, rfl, hafl, hflv⟩ := Td.inv t5
    clear t1 t2 t3 t6 t7 t4 t5
    have hkbl : kbv.length = B.kinds.length := by rw [hkb.len, List.length_map]
    -- the names
    refine ⟨lz 1, fun q1 h1 => ?_⟩
    generalize hE : upd _ q1 _ = H6
    obtain ⟨s6, e6⟩ := mk hE h1
    refine ⟨lz 0, fun q2 h2 => ?_⟩
    generalize hE : upd _ q2 _ = H7
    obtain ⟨s7, e7⟩ := mk hE h2
    refine ⟨lz 2, fun q3 h3 => ?_⟩
    generalize hE : upd _ q3 _ = H8
    obtain ⟨s8, e8⟩ := mk hE h3
    have bx8 := ((bx5.same s6).same s7).same s8
    have nq3 : q3 ≠ b := ((bx5.same s6).same s7).ne h3
    have nq1 : q1 ≠ b := bx5.ne h1
    have nq2 : q2 ≠ b := (bx5.same s6).ne h2
    refine ⟨_, rfl, b, 3, rfl, bx8, by decide, by decide, fun r H9 r0 r1 hB9 bx9 => ⟨_, _, rfl, ?_⟩⟩
    obtain ⟨qv, pre, hqv, eqv, hpre⟩ : ∃ (qv : Addr) (pre : List Str), atI [V.ref q1, V.ref q2] (if r < 1 then r else 1) = some (.ref qv) ∧ H9 qv = some (.lst (pre.map .str)) ∧ (pre = [("num" : Str)] ∨ pre = []) := by
      by_cases hr0 : r < 1
      · have : r = 0 := by omega
        subst this
        exact ⟨q1, [("num" : Str)], rfl, hB9 _ _ nq1 (s8 _ _ (s7 _ _ e6)), .inl rfl⟩
      · rw [if_neg hr0]
        exact ⟨q2, [], rfl, hB9 _ _ nq2 (s8 _ _ e7), .inr rfl⟩
    refine ⟨q3, _, _, .ref qv, rfl, rfl, .inl (.inl (hB9 _ _ nq3 e8)), hqv, ?_⟩
    have s58 := s6.trans (s7.trans s8)
    have hB59 : But b H5 H9 := (But.of s58).trans hB9
    have ePL9 := hB59 _ _ nPLb ePL5
    refine ⟨_, rfl, PL, rfl, ⟨_, .inl (.inl ePL9)⟩, fun D nD => lc_it (walk_list (xs := nms.map V.str)) (fun i H' => Same H9 H' ∧ H' D = some (.lst (((nms.take i).filter fun x : Str => decide (x ≠ "num")).map .str))) ⟨same_new nD, upd_same⟩ (fun i H' _ hP => Same.seq hP.1 (.inl (.inl ePL9))) (fun i x Ha Hb hi hP hY => ?_) (fun Ha hP => ?_)⟩
    · obtain ⟨sa, ea⟩ := hP
      obtain ⟨rfl, hx⟩ := hY
      obtain ⟨z, hz, rfl⟩ := map_at hx
      have keep : (nms.take (i + 1)).filter (fun x : Str => decide (x ≠ "num")) = (nms.take i).filter (fun x : Str => decide (x ≠ "num")) ++ [z].filter (fun x : Str => decide (x ≠ "num")) := by
        rw [take_succ' hz, List.filter_append]
      refine ⟨rfl, _, rfl, rfl, _, rfl, ?_⟩
      rw [decV]
      by_cases hzn : z = "num"
      · refine ifF (by simp [hzn]) ⟨sa, ?_⟩
        rw [ea, keep, List.filter_cons_of_neg (by simp [hzn])]
        simp
      · refine ifT (by simp [hzn]) ⟨_, rfl, _, ea, ?_, smut sa nD, ?_⟩
        · rw [List.length_map]
          have := List.length_filter_le (fun x : Str => decide (x ≠ "num")) (nms.take i)
          rw [List.length_take] at this
          exact lzl (by omega)
        · rw [upd_same, keep, List.filter_cons_of_pos (by simp [hzn]), List.map_append]
          rfl
    obtain ⟨sa, ea⟩ := hP
    rw [show nms.take (nms.map V.str).length = nms from List.take_of_length_le (by rw [List.length_map]; exact Nat.le_refl _)] at ea
    generalize hfn : nms.filter (fun x : Str => decide (x ≠ "num")) = fn' at ea
    have hfl4 : 4 ≤ fn'.length ∧ fn'.length ≤ 5 := by
      have h1 := filter_left (l := nms) (m := [("num" : Str)]) ndnm
      have e : nms.filter (fun x => decide (x ∉ (["num"] : List Str))) = fn' := by
        rw [← hfn]
        exact List.filter_congr fun x _ => by simp
      rw [e] at h1
      have h2 := List.length_filter_le (fun x : Str => decide (x ≠ "num")) nms
      rw [hfn] at h2
      simp only [List.length_cons, List.length_nil] at h1
      omega
    have hfnd : fn'.Nodup := by rw [← hfn]; exact ndnm.filter _
    have hfnn : ∀ x ∈ fn', isNm x = true ∧ x ≠ "num" := fun x hx => by
      rw [← hfn] at hx
      have := List.mem_filter.mp hx
      exact ⟨(hnm x this.1).1, of_decide_eq_true this.2⟩
    refine ⟨qv, D, _, _, rfl, rfl, sa _ _ eqv, ea, ?_, fun NL nNL => ?_⟩
    · rw [List.length_map, List.length_map]
      rcases hpre with rfl | rfl
      · exact lz _ (by show 1 + _ ≤ _; omega)
      · exact lz _ (by show 0 + _ ≤ _; omega)
    generalize hE : upd _ NL _ = H10
    obtain ⟨s10, e10⟩ := mk hE nNL
    rw [← List.map_append] at e10
    generalize hns : pre ++ fn' = ns at e10
    have hnsl : 4 ≤ ns.length ∧ ns.length ≤ 6 := by
      rw [← hns, List.length_append]
      rcases hpre with rfl | rfl
      · simp only [List.length_cons, List.length_nil]; omega
      · simp only [List.length_nil]; omega
    have hnsd : ns.Nodup := by
      rw [← hns]
      rcases hpre with rfl | rfl
      · rw [List.singleton_append, List.nodup_cons]
        exact ⟨fun h => (hfnn _ h).2 rfl, hfnd⟩
      · exact hfnd
    have hB510 : But b H5 H10 := hB59.trans (But.of (sa.trans s10))
    have bx10 := (bx9.same sa).same s10
    have nNLb : NL ≠ b := (bx9.same sa).ne nNL
    have hTB10 := hTB.mono (hB510.tup bx5)
    have hakb10 := hakb.mono (hB510.tup bx5)
    have hkb10 := hkb.mono (hB510.tup bx5)
    have hafl10 := hafl.mono (hB510.tup bx5)
    have eHL10 := hB510 _ _ nHLb eHL5
    have eFL10 := hB510 _ _ nFLb eFL5
    have nNF : NL ≠ FL := fun e => by
      have h1 := (hB59.trans (But.of sa)) _ _ nFLb eFL5
      rw [e, h1] at nNL
      cases nNL
    have hB010 := hB5.trans hB510
    have dB10 := dB5.mono (hB510.tup bx5)
    clear hB510 hB59 s10 sa nNL hE ea eqv hqv e8 e7 e6 s6 s7 s8 h1 h2 h3 hTB hakb hkb hafl eHL5 eFL5 bx9 hB9 ePL9 ePL5 nD bx8 s58 dB5 hB5
    -- the kinds
    refine ⟨_, rfl, b, 2, rfl, bx10, by decide, by decide, fun r' H11 r0' r1' hB11 bx11 => ⟨_, _, rfl, rfl, _, rfl, by omega, by omega, fun D2 nD2 => ?_⟩⟩
    have nD2b : D2 ≠ b := bx11.ne nD2
    refine lc_it walk_range (fun i H' => But b H11 H' ∧ Bx H' b ∧ ∃ (acc : List V) (kds : List (Str × Str)), H' D2 = some (.lst acc) ∧ Tds K H' acc (kds.map pairD) ∧ kds.map (·.1) = ns.take i ∧ ∀ q ∈ kds, q.2 ∈ B.ks) ⟨But.new nD2, bx11.keep nD2b.symm, [], [], upd_same, .nil, rfl, fun _ h => nomatch h⟩ (fun _ _ _ _ => trivial) (fun i x Ha Hb hi hP hY => ?_) (fun Ha hP => ?_)
    · obtain ⟨hBa, bxa, acc, kds, ea, ta, hk1, hk2⟩ := hP
      obtain ⟨rfl, rfl⟩ := hY
      have hi2 : i < ns.length := by omega
      have hB1 := hB11.trans hBa
      have kt := hB1.tup bx10
      have hkl : kds.length = i := by
        have := congrArg List.length hk1
        rw [List.length_map, List.length_take] at this
        omega
      refine ⟨rfl, _, rfl, _, rfl, NL, _, _, .str ns[i], rfl, rfl, .inl (.inl (hB1 _ _ nNLb e10)), ?_, ?_⟩
      · rw [Int.zero_add]
        exact atI_nat (by rw [List.getElem?_map, List.getElem?_eq_getElem hi2]; rfl)
      have hne := okB.kne
      have hkl2 := okB.klen
      refine ⟨_, rfl, _, rfl, aB, _, 3, .ref akb, rfl, rfl, (hTB10.mono kt).sq, rfl, b, .ref akb, kbv, rfl, bxa, .inr (.inl ⟨akb, rfl, hakb10.mono kt⟩), by omega, by omega, fun x H12 hx hB12 bx12 => ?_⟩
      obtain ⟨j, hj⟩ := List.getElem?_of_mem hx
      have kt12 := kt.trans (hB12.tup bxa)
      obtain ⟨dd, hdd, dx⟩ := (hkb10.mono kt12).getV hj
      obtain ⟨q0, hq0, rfl⟩ := map_at hdd
      obtain ⟨e, u1, u2, rfl, hTe, k1, k2⟩ := Td.i2 dx
      obtain rfl := k1.strI
      refine ⟨e, _, 0, .str q0.1, rfl, rfl, hTe.sq, rfl, lz 2, fun pt hpt => ?_⟩
      generalize hE : upd _ pt _ = H13
      obtain ⟨s13, e13⟩ := mk hE hpt
      have hBd : But b Hb H13 := hB12.trans (But.of s13)
      have eD := hBd _ _ nD2b ea
      refine ⟨acc, eD, ?_, (hBa.trans hBd).mut nD2, (bx12.same s13).keep nD2b.symm, _, kds ++ [(ns[i], q0.1)], upd_same, ?_, ?_, fun q hq => ?_⟩
      · rw [ta.len, List.length_map]
        exact lzl (by omega)
      · rw [List.map_append]
        exact Tds.mono (TupK.put (TupK.refl _) eD rfl) ((ta.mono (hBd.tup bxa)).snoc (.at e13 (.cons (.str _) (.cons (.str _) .nil))))
      · rw [List.map_append, hk1, take_succ' (List.getElem?_eq_getElem hi2)]
        rfl
      · rcases List.mem_append.mp hq with hq | hq
        · exact hk2 q hq
        · rw [List.mem_singleton] at hq
          rw [hq]
          exact List.mem_map.mpr ⟨q0, List.mem_of_getElem? hq0, rfl⟩
    obtain ⟨hBa, bxa, acc, kds, ea, ta, hk1, hk2⟩ := hP
    have hkl : kds.length = (1 + r').toNat := by
      have := congrArg List.length hk1
      rw [List.length_map, List.length_take] at this
      omega
    have hkl1 : 1 ≤ kds.length ∧ kds.length ≤ 2 := by omega
    have hkd : (kds.map (·.1)).Nodup := by rw [hk1]; exact hnsd.sublist (List.take_sublist _ _)
    refine ⟨D2, acc, rfl, .inl ⟨.inl (.inl ea), fun kt hkt => ?_⟩⟩
    generalize hE : upd _ kt _ = H12
    obtain ⟨s12, e12⟩ := mk hE hkt
    have hBx : But b H10 H12 := (hB11.trans hBa).trans (But.of s12)
    have bx12 := bxa.same s12
    have tkd : Tds K H12 acc (kds.map pairD) := ta.mono (tk s12)
    have htkt : Tu K H12 kt acc := .inl e12
    have hB12 := hB010.trans hBx
    have k1012 := hBx.tup bx10
    have eNL12 := hBx _ _ nNLb e10
    have eHL12 := hBx _ _ nHLb eHL10
    have eFL12 := hBx _ _ nFLb eFL10
    have hTB12 := hTB10.mono k1012
    have hafl12 := hafl10.mono k1012
    have dB12 := dB10.mono k1012
    have hal : acc.length = kds.length := by rw [ta.len, List.length_map]
    clear hBx k1012 e10 eHL10 eFL10 hTB10 hafl10 dB10 hB010 ta ea s12 e12 hE hBa hB11 bxa bx11 nD2 hakb10 hkb10 hkt
    -- the faults, the names of the kinds
    refine ⟨_, rfl, _, rfl, _, rfl, b, 2, rfl, bx12, by decide, by decide, fun r2 H13 r20 r21 hB13 bx13 => ⟨_, _, rfl, rfl, _, rfl, NL, _, rfl, .inl (.inl (hB13 _ _ nNLb eNL12)), fun ps hps => ?_⟩⟩
    generalize hE : upd _ ps _ = H14
    obtain ⟨s14, e14⟩ := mk hE hps
    obtain ⟨r2, rfl⟩ : ∃ t : Nat, r2 = (t : Int) := ⟨r2.toNat, by omega⟩
    have e14' : H14 ps = some (.lst (((ns.drop 2).take (min (3 + r2) ns.length - 2)).map .str)) := by
      have := cut_mid (f := V.str) (l := ns) (a := 2) (c := 3 + r2) (by omega)
      rw [e14, ← this]
      rfl
    generalize hfl : (ns.drop 2).take (min (3 + r2) ns.length - 2) = flt at e14'
    have hflt : 1 ≤ flt.length ∧ flt.length ≤ 6 := by
      rw [← hfl, List.length_take, List.length_drop]
      omega
    refine ⟨ps, _, rfl, .inl ⟨.inl (.inl e14'), fun ft hft => ?_⟩⟩
    generalize hE : upd _ ft _ = H15
    obtain ⟨s15, e15⟩ := mk hE hft
    have s1315 := s14.trans s15
    have hB15 : But b H12 H15 := hB13.trans (But.of s1315)
    have bx15 := bx13.same s1315
    have k15 := hB15.tup bx12
    have htk15 := htkt.mono k15
    refine ⟨_, rfl, kt, rfl, ⟨_, htk15.sq⟩, fun OL nOL => lc_it (walk_tup (K := K) (a := kt) (xs := acc)) (fun i H' => Same H15 H' ∧ H' OL = some (.lst (((kds.map (·.1)).take i).map .str))) ⟨same_new nOL, upd_same⟩ (fun i H' _ hP => sqt_mono htk15.sq (tk hP.1)) (fun i x Ha Hb hi hP hY => ?_) (fun Ha hP => ?_)⟩
    · obtain ⟨sa, ea⟩ := hP
      obtain ⟨rfl, hx⟩ := hY
      obtain ⟨dd, hdd, dx⟩ := (tkd.mono (k15.trans (tk sa))).getV hx
      obtain ⟨q0, hq0, rfl⟩ := map_at hdd
      obtain ⟨e, u1, u2, rfl, hTe, k1, k2⟩ := Td.i2 dx
      obtain rfl := k1.strI
      refine ⟨e, _, rfl, hTe.sq, rfl, _, _, rfl, _, _, rfl, rfl, rfl, _, rfl, _, ea, ?_, smut sa nOL, ?_⟩
      · rw [List.length_map, List.length_take, List.length_map]
        exact lzl (by omega)
      · rw [upd_same, take_succ' (l := kds.map (·.1)) (x := q0.1) (by rw [List.getElem?_map, hq0]; rfl), List.map_append]
        rfl
    obtain ⟨sa, ea⟩ := hP
    rw [show (kds.map (·.1)).take acc.length = kds.map (·.1) from List.take_of_length_le (by rw [List.length_map]; omega)] at ea
    refine ⟨lz 2, fun p16 h16 => ?_⟩
    generalize hE : upd _ p16 _ = H16
    obtain ⟨s16, e16⟩ := mk hE h16
    refine ⟨p16, _, rfl, .inl (.inl e16), rfl, _, _, rfl, _, _, rfl, rfl, ?_⟩
    have hB1216 : But b H12 H16 := hB15.trans (But.of (sa.trans s16))
    have bx16 := bx15.same (sa.trans s16)
    have k1216 := hB1216.tup bx12
    have hft16 : Tu K H16 ft (flt.map .str) := .inl ((sa.trans s16) _ _ e15)
    have eOL := s16 _ _ ea
    have nOLb : OL ≠ b := bx15.ne nOL
    have eFL := hB1216 _ _ nFLb eFL12
    have eHL := hB1216 _ _ nHLb eHL12
    have nOF : OL ≠ FL := fun e => by
      have h1 := hB15 _ _ nFLb eFL12
      rw [e, h1] at nOL
      cases nOL
    have htk16 := htkt.mono k1216
    have tkd16 := tkd.mono k1216
    have hTB16 := hTB12.mono k1216
    have hafl16 := hafl12.mono k1216
    have dB16 := dB12.mono k1216
    have hB16 := hB12.trans hB1216
    clear hB1216 k1216 hTB12 hafl12 dB12 hB12 htkt tkd eNL12 eHL12 eFL12 hE e14 e14' s14 s15 s16 s1315 sa ea e15 e16 hB15 bx15 k15 htk15 bx13 hB13 hps hft h16 nOL
    -- the forms
    refine ⟨_, rfl, kt, acc, rfl, .inr htk16.sq, _, _, rfl, rfl, _, rfl, b, 4, rfl, bx16, by decide, by decide, fun r3 H17 r30 r31 hB17 bx17 => ⟨_, _, rfl, rfl, _, rfl, by omega, by omega, ?_⟩⟩
    obtain ⟨r3, rfl⟩ : ∃ t : Nat, r3 = (t : Int) := ⟨r3.toNat, by omega⟩
    have hkall : ∀ q ∈ kds, q.1 ∈ kds.map (·.1) := fun q hq => List.mem_map.mpr ⟨q, hq, rfl⟩
    refine for_it walk_range (fun i σ H' => ∃ y11 y12 y13 y14, σ = [some (.ref b), some v, some (.str name), some (.str below), some (.ref aB), some (.ref HL), some (.ref NL), some (.ref FL), some (.ref kt), some (.ref ft), some (.ref OL), y11, y12, y13, y14, none, none, none, none] ∧
        But2 b FL H16 H' ∧ TupK H16 H' ∧ Bx H' b ∧ ∃ (fv : List V) (fs : List (Form × PyData)), H' FL = some (.lst fv) ∧ Tds K H' fv (fs.map formD) ∧ fs.length = i ∧ fs.map (fun f => f.1.head) = sg.take i ∧
          (∀ f ∈ fs, f.1.kind ∈ kds.map (·.1) ∧ itemsOk (kds.map (·.1)) f.1.items ∧ nNames f.1.items ≤ 2 ∧ f.1.items.length ≤ 7) ∧ ∀ (j : Nat) (f : Form × PyData) (q : Str × Str), fs[j]? = some f → kds[j]? = some q → f.1.kind = q.1 ∧ ∀ it ∈ f.1.items, it = Item.lit)
      ⟨none, none, none, none, rfl, But2.of hB17, hB17.tup bx16, bx17, [], [], hB17 _ _ nFLb eFL, .nil, rfl, rfl, (fun _ h => nomatch h), fun _ _ _ h _ => by simp at h⟩ (fun _ _ _ _ _ => trivial) (fun i x σ Hc Hd hi hP hY => ?_) (fun σ Hc hP => ?_)
    · obtain ⟨y11, y12, y13, y14, rfl, hBc, ktc, bxc, fv, fs, eFd, tF, hfl3, hfh, hfo, hff⟩ := hP
      obtain ⟨rfl, rfl⟩ := hY
      have hi6 : i < 6 := by omega
      have eHLd := hBc _ _ nHLb nFH.symm eHL
      have eOLd := hBc _ _ nOLb nOF eOL
      have hfvl : fv.length = i := by rw [tF.len, List.length_map, hfl3]
      -- a kind, some items
      refine ⟨_, rfl, _, rfl, b, .ref kt, acc, rfl, bxc, .inr (.inl ⟨kt, rfl, htk16.mono ktc⟩), by omega, by omega, fun x H18 hx hB18 bx18 => ?_⟩
      obtain ⟨j, hj⟩ := List.getElem?_of_mem hx
      obtain ⟨dd, hdd, dx⟩ := (tkd16.mono (ktc.trans (hB18.tup bxc))).getV hj
      obtain ⟨q0, hq0, rfl⟩ := map_at hdd
      have hq0m := List.mem_of_getElem? hq0
      refine ⟨_, rfl, _, rfl, _, rfl, _, rfl, HL, _, rfl, .inl (.inl (hB18 _ _ nHLb eHLd)), fun psl hpsl => ?_⟩
      generalize hE : upd _ psl _ = H19
      obtain ⟨s19, e19⟩ := mk hE hpsl
      have e19' : H19 psl = some (.lst ((sg.drop 6).map .str)) := by
        have := cut_from (f := V.str) (l := sg) (a := 6) (by omega)
        rw [e19, ← this]
        rfl
      refine ⟨b, OL, psl, kds.map (·.1), sg.drop 6, rfl, bx18.same s19, (hB18.trans (But.of s19)) _ _ nOLb eOLd, e19', by rw [List.length_map]; omega, by rw [List.length_map]; omega, by rw [List.length_drop]; omega, by rw [List.length_drop]; omega, fun vi H20 its hB20 bx20 dI hio hin hi7 => ?_⟩
      refine ⟨lz 2, fun p21 h21 => ?_⟩
      generalize hE : upd _ p21 _ = H21
      obtain ⟨s21, e21⟩ := mk hE h21
      have hB1921 : But b H18 H21 := (But.of s19).trans (hB20.trans (But.of s21))
      obtain ⟨e, u1, u2, rfl, hTe, k1, k2⟩ := Td.i2 (dx.mono (hB1921.tup bx18))
      obtain rfl := k1.strI
      obtain rfl := k2.strI
      refine ⟨p21, _, rfl, .inl (.inl e21), rfl, _, _, rfl, ⟨e, _, rfl, hTe.sq, rfl, _, _, rfl, _, _, rfl, rfl, _, _, rfl, rfl, ?_⟩⟩
      have hBd21 : But b Hd H21 := hB18.trans hB1921
      have bx21 := bx20.same s21
      have dI21 := dI.mono (tk s21)
      have i0 : (0 : Int) + (i : Int) = (i : Int) := Int.zero_add _
      refine ⟨fun σ H' => ∃ (kd itn : Str) (v14 : V) (its : List Item), σ = [some (.ref b), some v, some (.str name), some (.str below), some (.ref aB), some (.ref HL), some (.ref NL), some (.ref FL), some (.ref kt), some (.ref ft), some (.ref OL), some (.int (0 + (i : Int))), some (.str kd), some (.str itn), some v14, none, none, none, none] ∧
          But b Hd H' ∧ Bx H' b ∧ Td K H' v14 (.tuple (its.map Item.data)) ∧ kd ∈ kds.map (·.1) ∧ itn ∈ B.ks ∧ itemsOk (kds.map (·.1)) its ∧ nNames its ≤ 2 ∧ its.length ≤ 7 ∧ ∀ q, kds[i]? = some q → kd = q.1 ∧ ∀ it ∈ its, it = Item.lit, ?_, ?_⟩
      · refine ⟨_, rfl, _, rfl, kt, acc, rfl, .inr (htk16.mono (ktc.trans (hBd21.tup bxc))).sq, _, _, rfl, rfl, _, rfl, ite2 (fun hlt => ?_) (fun hlt => ?_)⟩
        · have hlt' : i < kds.length := by
            have := of_decide_eq_true hlt
            omega
          have hki : kds[i]? = some kds[i] := List.getElem?_eq_getElem hlt'
          obtain ⟨v5, hv5, dv5⟩ := (tkd16.mono (ktc.trans (hBd21.tup bxc))).get (i := i) (d := pairD kds[i]) (by rw [List.getElem?_map, hki]; rfl)
          refine ⟨_, rfl, _, rfl, kt, acc, _, v5, rfl, rfl, (htk16.mono (ktc.trans (hBd21.tup bxc))).sq, by rw [i0]; exact atI_nat hv5, lz 1, fun pl hpl => ?_⟩
          generalize hE : upd _ pl _ = H22
          obtain ⟨s22, e22⟩ := mk hE hpl
          refine ⟨lz 1, fun pm hpm => ?_⟩
          generalize hE : upd _ pm _ = H23
          obtain ⟨s23, e23⟩ := mk hE hpm
          have s2123 := s22.trans s23
          refine ⟨_, rfl, b, 2, rfl, bx21.same s2123, by decide, by decide, fun r4 H24 r40 r41 hB24 bx24 => ?_⟩
          have hB2124 : But b H21 H24 := (But.of s2123).trans hB24
          have nplb : pl ≠ b := bx21.ne hpl
          have npmb : pm ≠ b := (bx21.same s22).ne hpm
          have epl := hB24 _ _ nplb (s23 _ _ e22)
          have epm := hB24 _ _ npmb e23
          have dpm : Td K H24 (.ref pm) (.tuple [Item.lit.data]) := .at epm (.cons (.at epl (.cons (.str _) .nil)) .nil)
          have fin : ∀ (v14 : V) (H25 : Hp) (its : List Item), Same H24 H25 → Td K H25 v14 (.tuple (its.map Item.data)) → (its = [] ∨ its = [.lit]) → ∀ p26, H25 p26 = none → ∃ (a : Addr) (xs : List V), V.ref p26 = .ref a ∧ SqT K (upd H25 p26 (.tup [v5, v14])) a xs ∧ xs.length = 2 ∧ gCons (gTup K 2 (gCons (gName 12) (gCons (gName 13) gNil))) (gCons (gName 14) gNil) xs [some (.ref b), some v, some (.str name), some (.str below), some (.ref aB), some (.ref HL), some (.ref NL), some (.ref FL), some (.ref kt), some (.ref ft), some (.ref OL), some (.int (0 + (i : Int))), some (.str q0.1), some (.str q0.2), some vi, none, none, none, none] (upd H25 p26 (.tup [v5, v14])) (fun σ H' => ∃ (kd itn : Str) (v14 : V) (its : List Item), σ = [some (.ref b), some v, some (.str name), some (.str below), some (.ref aB), some (.ref HL), some (.ref NL), some (.ref FL), some (.ref kt), some (.ref ft), some (.ref OL), some (.int (0 + (i : Int))), some (.str kd), some (.str itn), some v14, none, none, none, none] ∧
              But b Hd H' ∧ Bx H' b ∧ Td K H' v14 (.tuple (its.map Item.data)) ∧ kd ∈ kds.map (·.1) ∧ itn ∈ B.ks ∧ itemsOk (kds.map (·.1)) its ∧ nNames its ≤ 2 ∧ its.length ≤ 7 ∧ ∀ q, kds[i]? = some q → kd = q.1 ∧ ∀ it ∈ its, it = Item.lit) := by
            intro v14 H25 its s25 d14 hits p26 hp26
            generalize hE : upd H25 p26 _ = H26
            obtain ⟨s26, e26⟩ := mk hE hp26
            have hB26 : But b Hd H26 := hBd21.trans (hB2124.trans (But.of (s25.trans s26)))
            obtain ⟨e', u1', u2', rfl, hTe', k1', k2'⟩ := Td.i2 (dv5.mono ((hB2124.tup bx21).trans (tk (s25.trans s26))))
            obtain rfl := k1'.strI
            obtain rfl := k2'.strI
            refine ⟨p26, _, rfl, .inl (.inl e26), rfl, _, _, rfl, ⟨e', _, rfl, hTe'.sq, rfl, _, _, rfl, _, _, rfl, rfl, _, _, rfl, rfl, ?_⟩⟩
            refine ⟨_, _, v14, its, rfl, hB26, bx24.same (s25.trans s26), d14.mono (tk s26), List.mem_map.mpr ⟨_, List.mem_of_getElem? hki, rfl⟩, hk2 _ (List.mem_of_getElem? hki), ?_, ?_, ?_, fun q hq => ?_⟩
            · rcases hits with rfl | rfl
              · intro j it h
                simp at h
              · intro j it h
                have : it = .lit := by
                  have := List.mem_of_getElem? h
                  simpa using this
                subst this
                trivial
            · rcases hits with rfl | rfl <;> decide
            · rcases hits with rfl | rfl <;> decide
            · rw [hki] at hq
              cases hq
              refine ⟨rfl, fun it hit => ?_⟩
              rcases hits with rfl | rfl
              · cases hit
              · simpa using hit
          have hr4 : r4 = 1 ∨ r4 = 0 := by omega
          refine ⟨pm, r4, [.ref pl], rfl, rfl, .inl (.inl epm), by simp, ?_⟩
          rcases hr4 with rfl | rfl
          · exact .inl ⟨rfl, lz 2, fun p26 hp26 => fin (.ref pm) H24 [.lit] (Same.refl _) dpm (.inr rfl) p26 hp26⟩
          · refine .inr ⟨rfl, fun pe hpe => ?_⟩
            generalize hE : upd _ pe _ = H25
            obtain ⟨s25, e25⟩ := mk hE hpe
            exact ⟨lz 2, fun p26 hp26 => fin (.ref pe) H25 [] s25 (.at e25 .nil) (.inl rfl) p26 hp26⟩
        · have hlt' : ¬ i < kds.length := by
            intro h
            exact hlt (decide_eq_true (by omega))
          refine ⟨_, _, vi, its, rfl, hBd21, bx21, dI21, hkall _ hq0m, hk2 _ hq0m, hio, hin, hi7, fun q hq => ?_⟩
          have := (List.getElem?_eq_some_iff.mp hq).1
          exact absurd this hlt'
      · rintro σ' H22 ⟨kd, itn, v14, its', rfl, hB22, bx22, d14, hkd', hitn, hio', hin', hi7', hfirst⟩
        -- the form
        have hisg : i < sg.length := by omega
        have k22 := ktc.trans (hB22.tup bxc)
        have eFL22 := hB22 _ _ nFLb eFd
        refine ⟨_, rfl, .inl ⟨rfl, _, .inl (.inl eFL22)⟩, _, rfl, _, rfl, HL, _, _, .str sg[i], rfl, rfl, .inl (.inl (hB22 _ _ nHLb eHLd)), by rw [i0]; exact atI_nat (by rw [List.getElem?_map, List.getElem?_eq_getElem hisg]; rfl), _, rfl, _, rfl, _, rfl, _, rfl, lz 0, fun pa hpa => ?_⟩
        generalize hE : upd _ pa _ = H23
        obtain ⟨s23, e23⟩ := mk hE hpa
        refine ⟨lz 0, fun pb hpb => ?_⟩
        generalize hE : upd _ pb _ = H24
        obtain ⟨s24, e24⟩ := mk hE hpb
        refine ⟨lz 3, fun psc hpsc => ?_⟩
        generalize hE : upd _ psc _ = H25
        obtain ⟨s25, e25⟩ := mk hE hpsc
        refine ⟨_, rfl, lz 0, fun psg hpsg => ?_⟩
        generalize hE : upd _ psg _ = H26
        obtain ⟨s26, e26⟩ := mk hE hpsg
        have s2226 := s23.trans (s24.trans (s25.trans s26))
        have dr : Dr K 0 H26 b psc psg pa pb (.ref aB) 1 itn B [] [] [] [] [] :=
          ⟨bx22.same s2226, by decide, by decide, .inl (s26 _ _ e25), dB16.mono (k22.trans (tk s2226)), (s24.trans (s25.trans s26)) _ _ e23, .nil, (s25.trans s26) _ _ e24, e26, .nil, okB, ⟨List.nodup_nil, (fun _ h => nomatch h), Nat.zero_le _, fun _ h => nomatch h⟩, hitn, List.nodup_nil, (fun _ h => nomatch h), .inr (by decide), by decide, by decide, fun _ h => nomatch h⟩
        refine ⟨b, psc, psg, pa, pb, _, 1, itn, B, [], [], [], [], [], rfl, dr, fun vt H27 t hB27 bx27 dt _ _ _ _ => ⟨lz 4, fun pf hpf => ?_⟩⟩
        generalize hE : upd _ pf _ = H28
        obtain ⟨s28, e28⟩ := mk hE hpf
        have hB2228 : But b H22 H28 := (But.of s2226).trans (hB27.trans (But.of s28))
        have eFL28 := hB2228 _ _ nFLb eFL22
        have k2228 := hB2228.tup bx22
        refine ⟨FL, fv, _, rfl, rfl, eFL28, lzl (by omega), _, _, _, _, rfl, (hBc.trans (But2.of (hB22.trans hB2228))).put, TupK.trans (k22.trans k2228) (TupK.put (TupK.refl _) eFL28 rfl), (bx27.same s28).keep nFLb.symm, fv ++ [.ref pf], fs ++ [(⟨sg[i], its', kd⟩, t.data)], upd_same, ?_, by rw [List.length_append, hfl3]; rfl, ?_, fun f hf => ?_, fun j f q hf hq => ?_⟩
        · rw [List.map_append]
          refine Tds.mono (TupK.put (TupK.refl _) eFL28 rfl) (((tF.mono (hB22.tup bxc)).mono k2228).snoc (.at e28 (.cons (.str _) (.cons (d14.mono k2228) (.cons (.str _) (.cons (dt.mono (tk s28)) .nil))))))
        · rw [List.map_append, hfh, take_succ' (List.getElem?_eq_getElem hisg)]
          rfl
        · rcases List.mem_append.mp hf with hf | hf
          · exact hfo f hf
          · rw [List.mem_singleton] at hf
            rw [hf]
            exact ⟨hkd', hio', hin', hi7'⟩
        · by_cases hjl : j < fs.length
          · rw [List.getElem?_append_left hjl] at hf
            exact hff j f q hf hq
          · have hjl2 := (List.getElem?_eq_some_iff.mp hf).1
            rw [List.length_append] at hjl2
            simp only [List.length_cons, List.length_nil] at hjl2
            have : j = fs.length := by omega
            subst this
            rw [hfl3] at hq
            have hf' : (⟨sg[i], its', kd⟩, t.data) = f := by simpa using hf
            rw [← hf']
            exact hfirst q hq
    · obtain ⟨y11, y12, y13, y14, rfl, hBc, ktc, bxc, fv, fs, eFd, tF, hfl3, hfh, hfo, hff⟩ := hP
      have hB0 : But b H Hc := hBc.new hB16 nFLH
      have hfls : flv.length ≤ 100 := by
        rw [hflv.len, List.length_map]
        exact okB.fltl
      refine ⟨_, rfl, aB, _, 4, .ref afl, rfl, rfl, (hTB16.mono ktc).sq, rfl, afl, rfl, ⟨_, (hafl16.mono ktc).sq⟩, fun D4 nD4 => ?_⟩
      have nD4b : D4 ≠ b := bxc.ne nD4
      refine lc_it (walk_tup (K := K) (a := afl) (xs := flv)) (fun i H' => But b Hc H' ∧ Bx H' b ∧ ∃ tl : List Str, H' D4 = some (.lst (tl.map .str)) ∧ tl.length = i) ⟨But.new nD4, bxc.keep nD4b.symm, [], upd_same, rfl⟩ (fun i H' _ hP => (hafl16.mono (ktc.trans (hP.1.tup bxc))).sq) (fun i x Ha Hb hi hP hY => ?_) (fun Ha hP => ?_)
      · obtain ⟨hBa, bxa, tl, ea, hl⟩ := hP
        obtain ⟨rfl, hx⟩ := hY
        refine ⟨rfl, _, rfl, _, rfl, b, .ref ft, _, rfl, bxa, .inr (.inl ⟨ft, rfl, hft16.mono (ktc.trans (hBa.tup bxc))⟩), by rw [List.length_map]; omega, by rw [List.length_map]; omega, fun x H18 hx18 hB18 bx18 => ?_⟩
        obtain ⟨z, hz, rfl⟩ := List.mem_map.mp hx18
        refine ⟨_, hB18 _ _ nD4b ea, ?_, (hBa.trans hB18).mut nD4, bx18.keep nD4b.symm, tl ++ [z], ?_, by rw [List.length_append, hl]; rfl⟩
        · rw [List.length_map]
          exact lzl (by omega)
        · rw [upd_same, List.map_append]
          rfl
      obtain ⟨hBa, bxa, tl, ea, hl⟩ := hP
      refine ⟨D4, _, rfl, .inl ⟨.inl (.inl ea), fun p5 h5 => ?_⟩⟩
      generalize hE : upd _ p5 _ = H19
      obtain ⟨s19, e19⟩ := mk hE h5
      have hB19 : But b Hc H19 := hBa.trans (But.of s19)
      refine ⟨_, rfl, _, rfl, _, rfl, _, rfl, _, rfl, _, rfl, FL, _, rfl, .inl ⟨.inl (.inl (hB19 _ _ nFLb eFd)), fun p6 h6 => ?_⟩⟩
      generalize hE : upd _ p6 _ = H20
      obtain ⟨s20, e20⟩ := mk hE h6
      refine ⟨lz 7, fun p7 h7 => ?_⟩
      generalize hE : upd _ p7 _ = H21
      obtain ⟨s21, e21⟩ := mk hE h7
      have hB21 : But b Hc H21 := hB19.trans (But.of (s20.trans s21))
      have k21 := ktc.trans (hB21.tup bxc)
      have strT : ∀ {H : Hp} (l : List Str), Tds K H (l.map V.str) (l.map PyData.str) := by
        intro H l
        induction l with
        | nil => exact .nil
        | cons x r ih => exact .cons (.str x) ih
      refine q _ _ ⟨name, below, kds, flt, tl, fs⟩ (hB0.trans hB21) (bxa.same (s19.trans (s20.trans s21))) ?_ ?_ rfl rfl
      · refine .at e21 (.cons (.str _) (.cons (.str _) (.cons (.str _) (.cons (.tup (htk16.mono k21) (tkd16.mono k21)) (.cons (.tup (hft16.mono k21) (strT flt)) (.cons (.at ((s20.trans s21) _ _ e19) (strT tl)) (.cons (.at (s21 _ _ e20) (tF.mono (hB21.tup bxc))) .nil)))))))
      · have hfsl : kds.length + 1 ≤ fs.length := by
          rw [hfl3]
          omega
        refine ⟨?_, hfo, fun k hk => ?_, by show fs.length ≤ 100; rw [hfl3]; omega, by show kds.length ≤ 100; omega, by show 0 < kds.length; omega, by show flt.length ≤ 100; omega⟩
        · show (fs.map fun f => f.1.head).Nodup
          rw [hfh]
          exact ndsg.sublist (List.take_sublist _ _)
        · obtain ⟨q0, hq0, rfl⟩ := List.mem_map.mp (show k ∈ kds.map (·.1) from hk)
          obtain ⟨j, hj⟩ := List.getElem?_of_mem hq0
          have hjl := (List.getElem?_eq_some_iff.mp hj).1
          have hjf : j < fs.length := by omega
          obtain ⟨h1, h2⟩ := hff j _ q0 (List.getElem?_eq_getElem hjf) hj
          refine ⟨fs[j], List.find?_eq_some_iff_getElem.mpr ⟨decide_eq_true h1, j, hjf, rfl, fun m hm => ?_⟩, h2⟩
          have hml : m < kds.length := by omega
          obtain ⟨h3, _⟩ := hff m _ kds[m] (List.getElem?_eq_getElem (by omega)) (List.getElem?_eq_getElem hml)
          have hne : kds[m].1 ≠ q0.1 := fun e => by
            have e1 : (kds.map (·.1))[m]? = some kds[m].1 := by rw [List.getElem?_map, List.getElem?_eq_getElem hml]; rfl
            have e2 : (kds.map (·.1))[j]? = some kds[m].1 := by rw [List.getElem?_map, hj, e]; rfl
            have := nd_ix hkd e1 e2
            omega
          rw [h3, decide_eq_false hne]
          rfl
end K27

set_option maxHeartbeats 8000000
namespace K27
open PySem PySem.Spec PyProof.Rows L2
/-! ### a right tower -/
structure RowOk (T : Tongue) (hs : List Hd) (r : Row) : Prop where
  nm : isNm r.name = true
  pl : r.params.length ≤ 3
  pnd : (r.params.map (·.1)).Nodup
  pnm : ∀ q ∈ r.params, isNm q.1 = true ∧ q.2 ∈ T.ks
  kd : r.kind ∈ T.ks
  good : Good (langT T hs) (r.body, envL r.params, r.kind)
  t : isT r.body = true
  sz : psize r.body ≤ 64
  dp : r.body.dep ≤ 3
def OwnOk (tw : List It) (own : Str) : Prop := own = "ground" ∨ ∃ t, It.tong t ∈ tw ∧ t.name = own
structure PartOk (tw : List It) (p : Part) : Prop where
  nd : (p.rows.map (·.name)).Nodup
  len : p.rows.length ≤ 4
  own : OwnOk tw p.own
  rows : ∀ r ∈ p.rows, RowOk (tongueOf tw p.own) (headsOf tw p.own) r
structure TwOk (tw : List It) : Prop where
  nd : (tw.map It.name).Nodup
  nm : ∀ it ∈ tw, Nm it.name
  tong : ∀ t, It.tong t ∈ tw → TongOk t
  part : ∀ p, It.part p ∈ tw → PartOk tw p
  len : tw.length ≤ 20
def itemB (ks : List Str) (n : Nat) : Item → Bool
  | .sign _ => true
  | .lit => true
  | .name k => decide (k ∈ ks)
  | .term k os => decide (k ∈ ks) && (os.all (fun j => decide (j < n)) && decide (os.length ≤ 2))
def itemsB (ks : List Str) (l : List Item) : Bool := (List.range l.length).all fun i => match l[i]? with
  | some it => itemB ks (nNames (l.take i)) it
  | none => true
theorem itemsB_ok {ks : List Str} {l : List Item} (h : itemsB ks l = true) : itemsOk ks l := by
  intro i it hi
  have h1 := List.all_eq_true.mp h i (List.mem_range.mpr (List.getElem?_eq_some_iff.mp hi).1)
  rw [hi] at h1
  cases it with
  | sign s => trivial
  | lit => trivial
  | name k =>
    have h2 : k ∈ ks := of_decide_eq_true (show decide (k ∈ ks) = true from h1)
    exact h2
  | term k os =>
    have h1' : (decide (k ∈ ks) && (os.all (fun j => decide (j < nNames (l.take i))) && decide (os.length ≤ 2))) = true := h1
    simp only [Bool.and_eq_true, decide_eq_true_eq, List.all_eq_true] at h1'
    exact ⟨h1'.1, h1'.2.1, h1'.2.2⟩
theorem groundOk : TongOk groundT := by
  refine ⟨by decide +kernel, ?_, ?_, by decide, by decide, by decide, by decide⟩
  · have h1 : ∀ q ∈ groundRows, nNames q.2 ≤ 2 ∧ q.2.length ≤ 7 := by decide +kernel
    have h2 : ∀ q ∈ groundRows, itemsB groundT.ks q.2 = true := by decide +kernel
    have key : ∀ q ∈ groundRows, itemsOk groundT.ks q.2 := fun q hq => itemsB_ok (h2 q hq)
    intro f hf
    obtain ⟨q, hq, rfl⟩ := List.mem_map.mp hf
    exact ⟨by show ("num" : Str) ∈ _; decide, key q hq, (h1 q hq).1, (h1 q hq).2⟩
  · intro k hk
    have : k = "num" := by
      have h : k ∈ [("num" : Str)] := hk
      simpa using h
    subst this
    exact ⟨_, rfl, fun it h => by
      have h' : it ∈ [Item.lit] := h
      simpa using h'⟩
theorem headsOf_app (tw uw : List It) (own : Str) : headsOf (tw ++ uw) own = headsOf tw own ++ headsOf uw own := by
  unfold headsOf
  rw [List.flatMap_append]
theorem headsOf_one (it : It) (own : Str) : headsOf [it] own = headsIn own it := by
  unfold headsOf
  simp
theorem isTong_spec {x : Str} {it : It} (h : isTong x it = true) : ∃ t, it = .tong t ∧ t.name = x := by
  cases it with
  | part p => cases h
  | tong t => exact ⟨t, rfl, of_decide_eq_true h⟩
theorem tongueOf_ok {tw : List It} (h : TwOk tw) {own : Str} (ho : OwnOk tw own) : TongOk (tongueOf tw own) ∧ (tongueOf tw own).name = own := by
  unfold tongueOf
  cases hf : tw.find? (isTong own) with
  | none =>
    rcases ho with rfl | ⟨t, ht, rfl⟩
    · exact ⟨groundOk, rfl⟩
    · have := List.find?_eq_none.mp hf _ ht
      exact absurd (decide_eq_true rfl) this
  | some it =>
    obtain ⟨t, rfl, e⟩ := isTong_spec (List.find?_some hf)
    exact ⟨h.tong t (List.mem_of_find?_eq_some hf), e⟩
theorem tongueOf_app {tw : List It} (h : TwOk tw) {own : Str} (ho : OwnOk tw own) {uw : List It} (hu : ∀ it ∈ uw, it.name ≠ "ground") : tongueOf (tw ++ uw) own = tongueOf tw own := by
  unfold tongueOf
  rw [List.find?_append]
  cases hf : tw.find? (isTong own) with
  | some it => rfl
  | none =>
    have hn : uw.find? (isTong own) = none := by
      refine List.find?_eq_none.mpr fun it hit hp => ?_
      obtain ⟨t, rfl, e⟩ := isTong_spec hp
      rcases ho with rfl | ⟨t', ht', e'⟩
      · exact hu _ hit e
      · have := List.find?_eq_none.mp hf _ ht'
        exact this (decide_eq_true e')
    rw [hn]
    rfl
theorem RowOk.mono {T : Tongue} {hs hs' : List Hd} {r : Row} (h : RowOk T hs r) : RowOk T (hs ++ hs') r := by
  refine { h with good := ?_ }
  refine Good.mono (L := langT T hs) (L' := langT T (hs ++ hs')) rfl (fun _ _ e => e) (fun f p e => ?_) h.good (envL r.params) fun _ _ e => e
  have e' : hs.find? (fun q => decide (q.1 = f)) = some p := e
  show (hs ++ hs').find? (fun q => decide (q.1 = f)) = some p
  rw [List.find?_append, e']
  rfl
theorem OwnOk.mono {tw uw : List It} {own : Str} (h : OwnOk tw own) : OwnOk (tw ++ uw) own := by
  rcases h with h | ⟨t, ht, e⟩
  · exact .inl h
  · exact .inr ⟨t, List.mem_append_left _ ht, e⟩
/-- an item more -/
theorem TwOk.add {tw : List It} (h : TwOk tw) {it : It} (hn : Nm it.name) (hf : it.name ∉ tw.map It.name) (hl : tw.length < 20) (ht : ∀ t, it = .tong t → TongOk t) (hp : ∀ p, it = .part p → p.rows = [] ∧ OwnOk tw p.own) : TwOk (tw ++ [it]) := by
  refine ⟨?_, fun i hi => ?_, fun t hi => ?_, fun p hi => ?_, by rw [List.length_append]; exact hl⟩
  · rw [List.map_append, List.nodup_append]
    refine ⟨h.nd, by simp, fun a ha b hb e => ?_⟩
    have : b = it.name := by simpa using hb
    rw [e, this] at ha
    exact hf ha
  · rcases List.mem_append.mp hi with hi | hi
    · exact h.nm i hi
    · rw [List.mem_singleton.mp hi]
      exact hn
  · rcases List.mem_append.mp hi with hi | hi
    · exact h.tong t hi
    · exact ht t (List.mem_singleton.mp hi).symm
  · rcases List.mem_append.mp hi with hi | hi
    · have hP := h.part p hi
      refine ⟨hP.nd, hP.len, hP.own.mono, fun r hr => ?_⟩
      rw [tongueOf_app h hP.own (fun i hi => by rw [List.mem_singleton.mp hi]; exact hn.2), headsOf_app]
      exact (hP.rows r hr).mono
    · obtain ⟨h1, h2⟩ := hp p (List.mem_singleton.mp hi).symm
      refine ⟨by rw [h1]; exact List.nodup_nil, by rw [h1]; exact Nat.zero_le _, h2.mono, fun r hr => ?_⟩
      rw [h1] at hr
      cases hr
/-- a row more -/
theorem TwOk.row {tw : List It} {n o : Str} {rs : List Row} {r : Row} (h : TwOk (tw ++ [.part ⟨n, o, rs⟩])) (hr : RowOk (tongueOf (tw ++ [.part ⟨n, o, rs⟩]) o) (headsOf (tw ++ [.part ⟨n, o, rs⟩]) o) r) (hn : r.name ∉ rs.map (·.name)) (hl : rs.length < 4) :
    TwOk (tw ++ [.part ⟨n, o, rs ++ [r]⟩]) := by
  have hT : ∀ own, tongueOf (tw ++ [.part ⟨n, o, rs ++ [r]⟩]) own = tongueOf (tw ++ [.part ⟨n, o, rs⟩]) own := fun own => by
    unfold tongueOf
    rw [List.find?_append, List.find?_append]
    rfl
  have hH : ∀ own, ∃ x, headsOf (tw ++ [.part ⟨n, o, rs ++ [r]⟩]) own = headsOf (tw ++ [.part ⟨n, o, rs⟩]) own ++ x := fun own => by
    rw [headsOf_app, headsOf_app, headsOf_one, headsOf_one]
    show ∃ x, headsOf tw own ++ (if o = own then (rs ++ [r]).map (rowHead ⟨n, o, rs ++ [r]⟩) else []) = headsOf tw own ++ (if o = own then rs.map (rowHead ⟨n, o, rs⟩) else []) ++ x
    by_cases e : o = own
    · rw [if_pos e, if_pos e, List.map_append]
      exact ⟨[rowHead ⟨n, o, rs ++ [r]⟩ r], by rw [List.append_assoc]; rfl⟩
    · rw [if_neg e, if_neg e]
      exact ⟨[], by simp⟩
  have hO : ∀ own, OwnOk (tw ++ [.part ⟨n, o, rs⟩]) own → OwnOk (tw ++ [.part ⟨n, o, rs ++ [r]⟩]) own := fun own q => by
    rcases q with q | ⟨t, ht, e⟩
    · exact .inl q
    · refine .inr ⟨t, ?_, e⟩
      rcases List.mem_append.mp ht with ht | ht
      · exact List.mem_append_left _ ht
      · cases List.mem_singleton.mp ht
  have hR : ∀ own q, RowOk (tongueOf (tw ++ [.part ⟨n, o, rs⟩]) own) (headsOf (tw ++ [.part ⟨n, o, rs⟩]) own) q → RowOk (tongueOf (tw ++ [.part ⟨n, o, rs ++ [r]⟩]) own) (headsOf (tw ++ [.part ⟨n, o, rs ++ [r]⟩]) own) q := fun own q hq => by
    obtain ⟨x, hx⟩ := hH own
    rw [hT, hx]
    exact hq.mono
  have mem_l : ∀ it, it ∈ tw → it ∈ tw ++ [.part ⟨n, o, rs⟩] := fun it h => List.mem_append_left _ h
  have hself : It.part ⟨n, o, rs⟩ ∈ tw ++ [.part ⟨n, o, rs⟩] := List.mem_append_right _ (List.mem_singleton.mpr rfl)
  refine ⟨?_, fun i hi => ?_, fun t hi => ?_, fun p hi => ?_, ?_⟩
  · have := h.nd
    rw [List.map_append] at this ⊢
    exact this
  · rcases List.mem_append.mp hi with hi | hi
    · exact h.nm i (mem_l i hi)
    · rw [List.mem_singleton.mp hi]
      show Nm n
      exact h.nm (.part ⟨n, o, rs⟩) hself
  · rcases List.mem_append.mp hi with hi | hi
    · exact h.tong t (mem_l _ hi)
    · cases List.mem_singleton.mp hi
  · rcases List.mem_append.mp hi with hi | hi
    · have hP := h.part p (mem_l _ hi)
      exact ⟨hP.nd, hP.len, hO _ hP.own, fun q hq => hR _ q (hP.rows q hq)⟩
    · cases List.mem_singleton.mp hi
      have hP := h.part _ hself
      refine ⟨?_, ?_, hO _ hP.own, fun q hq => ?_⟩
      · show ((rs ++ [r]).map (·.name)).Nodup
        rw [List.map_append, List.nodup_append]
        refine ⟨hP.nd, by simp, fun a ha b hb e => ?_⟩
        have : b = r.name := by simpa using hb
        rw [e, this] at ha
        exact hn ha
      · show (rs ++ [r]).length ≤ 4
        rw [List.length_append]
        exact hl
      · rcases List.mem_append.mp hq with hq | hq
        · exact hR _ q (hP.rows q hq)
        · rw [List.mem_singleton.mp hq]
          exact hR _ r hr
  · have := h.len
    rw [List.length_append] at this ⊢
    exact this
/-! ### heads are told by their names -/
theorem dot_inj {a b c d : Str} (ha : lowS a) (hc : lowS c) (hb : lowS b) (hd : lowS d) (e : a ++ ("." : Str) ++ b = c ++ ("." : Str) ++ d) : a = c ∧ b = d := by
  have e1 := congrArg cds e
  rw [cds_app, cds_app, cds_app, cds_app] at e1
  have key : ∀ (l m p q : List Nat), (∀ x ∈ l, 97 ≤ x ∧ x ≤ 122) → (∀ x ∈ m, 97 ≤ x ∧ x ≤ 122) → l ++ [46] ++ p = m ++ [46] ++ q → l = m ∧ p = q := by
    intro l
    induction l with
    | nil =>
      intro m p q _ h2 e
      cases m with
      | nil => exact ⟨rfl, List.tail_eq_of_cons_eq e⟩
      | cons y m =>
        have := List.head_eq_of_cons_eq e
        have := h2 y List.mem_cons_self
        omega
    | cons x l ih =>
      intro m p q h1 h2 e
      cases m with
      | nil =>
        have := List.head_eq_of_cons_eq e
        have := h1 x List.mem_cons_self
        omega
      | cons y m =>
        have e2 := List.head_eq_of_cons_eq e
        obtain ⟨i1, i2⟩ := ih m p q (fun z hz => h1 z (List.mem_cons_of_mem _ hz)) (fun z hz => h2 z (List.mem_cons_of_mem _ hz)) (List.tail_eq_of_cons_eq e)
        exact ⟨by rw [e2, i1], i2⟩
  obtain ⟨h1, h2⟩ := key _ _ _ _ ha hc e1
  exact ⟨str_ext h1, str_ext h2⟩
theorem heads_mem {tw : List It} {own : Str} {h : Hd} (hm : h ∈ headsOf tw own) : ∃ p r, It.part p ∈ tw ∧ p.own = own ∧ r ∈ p.rows ∧ h = rowHead p r := by
  unfold headsOf at hm
  obtain ⟨it, hit, hh⟩ := List.mem_flatMap.mp hm
  cases it with
  | tong t => cases hh
  | part p =>
    have hh' : h ∈ (if p.own = own then p.rows.map (rowHead p) else []) := hh
    by_cases e : p.own = own
    · rw [if_pos e] at hh'
      obtain ⟨r, hr, rfl⟩ := List.mem_map.mp hh'
      exact ⟨p, r, hit, e, hr, rfl⟩
    · rw [if_neg e] at hh'
      cases hh'
theorem heads_nodup {own : Str} : ∀ {tw : List It}, (tw.map It.name).Nodup → (∀ it ∈ tw, Nm it.name) → (∀ p, It.part p ∈ tw → (p.rows.map (·.name)).Nodup ∧ ∀ r ∈ p.rows, isNm r.name = true) → ((headsOf tw own).map (·.1)).Nodup
  | [], _, _, _ => List.nodup_nil
  | it :: tw, h1, h2, h3 => by
    rw [List.map_cons, List.nodup_cons] at h1
    have ih := heads_nodup (own := own) h1.2 (fun i hi => h2 i (List.mem_cons_of_mem _ hi)) fun p hp => h3 p (List.mem_cons_of_mem _ hp)
    have e : headsOf (it :: tw) own = headsIn own it ++ headsOf tw own := by
      unfold headsOf
      rw [List.flatMap_cons]
    rw [e, List.map_append, List.nodup_append]
    cases it with
    | tong t => exact ⟨List.nodup_nil, ih, fun a ha => nomatch ha⟩
    | part p =>
      obtain ⟨k1, k2⟩ := h3 p List.mem_cons_self
      have hpn := isNm_low (h2 _ List.mem_cons_self).1
      by_cases eo : p.own = own
      · have eh : headsIn own (.part p) = p.rows.map (rowHead p) := by
          show (if p.own = own then _ else _) = _
          rw [if_pos eo]
        rw [eh, List.map_map]
        refine ⟨?_, ih, fun a ha c hc e => ?_⟩
        · refine List.pairwise_map.mpr ((List.pairwise_map.mp k1).imp_of_mem fun {r s} hr hs ne e => ne ?_)
          exact (dot_inj hpn hpn (isNm_low (k2 r hr)) (isNm_low (k2 s hs)) e).2
        · obtain ⟨r, hr, rfl⟩ := List.mem_map.mp ha
          obtain ⟨h, hh, rfl⟩ := List.mem_map.mp hc
          obtain ⟨p', r', hp', _, hr', rfl⟩ := heads_mem hh
          have hp'n := isNm_low (h2 _ (List.mem_cons_of_mem _ hp')).1
          have hr'n := isNm_low ((h3 p' (List.mem_cons_of_mem _ hp')).2 r' hr')
          have := (dot_inj hpn hp'n (isNm_low (k2 r hr)) hr'n e).1
          exact h1.1 (List.mem_map.mpr ⟨_, hp', this.symm⟩)
      · have eh : headsIn own (.part p) = [] := by
          show (if p.own = own then _ else _) = _
          rw [if_neg eo]
        rw [eh]
        exact ⟨List.nodup_nil, ih, fun a ha => nomatch ha⟩
theorem heads_len {tw : List It} {own : Str} (h : ∀ p, It.part p ∈ tw → p.rows.length ≤ 4) : (headsOf tw own).length ≤ 4 * tw.length := by
  induction tw with
  | nil => exact Nat.le_refl _
  | cons it tw ih =>
    have e : headsOf (it :: tw) own = headsIn own it ++ headsOf tw own := by
      unfold headsOf
      rw [List.flatMap_cons]
    rw [e, List.length_append, List.length_cons]
    have h1 := ih fun p hp => h p (List.mem_cons_of_mem _ hp)
    have h2 : (headsIn own it).length ≤ 4 := by
      cases it with
      | tong t => exact Nat.zero_le _
      | part p =>
        show (if p.own = own then p.rows.map (rowHead p) else []).length ≤ 4
        split
        · rw [List.length_map]
          exact h p List.mem_cons_self
        · exact Nat.zero_le _
    omega
theorem heads_ok {tw : List It} (h : TwOk tw) {own : Str} : HdsOk (tongueOf tw own) (headsOf tw own) := by
  refine ⟨heads_nodup h.nd h.nm fun p hp => ⟨(h.part p hp).nd, fun r hr => ((h.part p hp).rows r hr).nm⟩, fun hd hm k hk => ?_, ?_, fun hd hm => ?_⟩
  · obtain ⟨p, r, hp, rfl, hr, rfl⟩ := heads_mem hm
    obtain ⟨q, hq, rfl⟩ := List.mem_map.mp (show k ∈ r.params.map (·.2) from hk)
    exact (((h.part p hp).rows r hr).pnm q hq).2
  · have := heads_len (own := own) fun p hp => (h.part p hp).len
    have := h.len
    omega
  · obtain ⟨p, r, hp, rfl, hr, rfl⟩ := heads_mem hm
    show (r.params.map (·.2)).length ≤ 7
    rw [List.length_map]
    have := ((h.part p hp).rows r hr).pl
    omega
theorem TwOk.fin {tw : List It} (h : TwOk tw) : ∀ it ∈ tw, it.fin := by
  intro it hit
  cases it with
  | tong t => trivial
  | part p =>
    have hP := h.part p hit
    have h1 := isNm_len (h.nm _ hit).1
    have h1' : p.name.length ≤ 6 := h1
    refine ⟨by omega, by have := hP.len; omega, fun r hr => ?_⟩
    have hR := hP.rows r hr
    have := isNm_len hR.nm
    have := hR.pl
    exact ⟨by omega, by omega⟩
end K27

set_option maxHeartbeats 8000000
namespace K27
open PySem PySem.Spec PyProof.Rows L2
theorem It.tupD (it : It) : ∃ l, it.data = .tuple l := by cases it <;> exact ⟨_, rfl⟩
variable {P : Program} {w : World} {K : PySem.W.Frag} {mg : Str → Option Value} {base : Heap}
def spNewPart (K : PySem.W.Frag) : Sp := fun vs H Q _ => ∃ (b la : Addr) (lv : List V) (name own : Str) (tw : List It), vs = [.ref b, .ref la, .str name, .str own] ∧ Bx H b ∧ H la = some (.lst lv) ∧ Tds K H lv (tw.map It.data) ∧ TwOk tw ∧ OwnOk tw own ∧ Nm name ∧ name ∉ tw.map It.name ∧ tw.length < 20 ∧
  ∀ r H' p, But b H H' → Bx H' b → Td K H' r p.data → p.name = name → TwOk (tw ++ [.part p]) → Q r H'
abbrev N_Lnew_part : List Str := ["_law_box_here", "_law_items_here", "_law_name", "_law_own", "_law_tongue_here", "_law_done", "_law_names", "_law_k", "_law_params", "_law_kind", "_law_here", "_law_scene", "_law_x"]
theorem sc_Lnew_part : FnScope N_Lnew_part ["_law_box_here", "_law_items_here", "_law_name", "_law_own"] (defScope s_Lnew_part) := ⟨rfl, rfl, rfl, by decide +kernel, rfl, by decide +kernel, by decide +kernel⟩
theorem ok_Lnew_part (T : TX K mg) : Ok P w K mg base CX0 7 "_law_new_part" ["_law_box_here", "_law_items_here", "_law_name", "_law_own"] (spNewPart K) := by
  refine Ok.mk' T T.m_Lnew_part T.f_Lnew_part sc_Lnew_part (fun vs H Q E h => ?_) (fun _ _ _ _ _ _ us hl => match us, hl with | [_, _, _, _], _ => rfl) (fun cdv A outer s H vs Q E hr h => ?_)
  · obtain ⟨b, la, lv, name, own, tw, rfl, _⟩ := h
    rfl
  · obtain ⟨b, la, lv, name, own, tw, rfl, bx, hla, tla, okW, hown, hnmn, hnew, htl, q⟩ := h
    refine ⟨_, (pss_cons (ps_asg (pe_tup (pa_cons (pe_ok (ok_Ltongue T) hr (by decide) (by rfl) (pa_cons (pv 1) (pa_cons (pv 3) pa_nil)) pass0) (pa_cons (pe_lst pa_nil) (pa_cons (pe_ok (ok_Lpool T) hr (by decide) (by rfl) (pa_cons (pv 0) (pa_cons pe_int pa_nil)) pass0) pa_nil)))) (pg_tup rfl (pgs_cons (pg_name (i := 4) sc_Lnew_part.nd rfl (.inr rfl)) (pgs_cons (pg_name (i := 5) sc_Lnew_part.nd rfl (.inl rfl)) (pgs_cons (pg_name (i := 6) sc_Lnew_part.nd rfl (.inl rfl)) pgs_nil)))))
      (pss_cons (ps_for PassesOwn.never rfl (pi_range1 (by rfl) T.n_range (pa_cons (pe_op op_add pe_int (pe_ok (ok_Ltake T) hr (by decide) (by rfl) (pa_cons (pv 0) (pa_cons (pe_ix ix_list (pe_lst (pa_cons pe_int (pa_cons pe_int pa_nil))) (pe_ok (ok_Ltake T) hr (by decide) (by rfl) (pa_cons (pv 0) (pa_cons pe_int pa_nil)) pass0) (fun _ _ => rfl)) pa_nil)) pass0)) pa_nil)) (pg_name (i := 7) sc_Lnew_part.nd rfl (.inl rfl))
        (pss_cons (ps_set (i := 8) sc_Lnew_part.nd rfl (Or.inl rfl) (pe_callTy call_tupleF (by rfl) T.n_tuple (by decide +kernel) (pa_cons (pe_lc (own := [("_law_x", 12)]) (g := gName 12) (tt := tYes) (by rfl) sc_Lnew_part.nd (pi_list (pe_slice sl_list (pv 6) (po_some pe_int) (po_some (pe_op op_add pe_int (pe_ok (ok_Ltake T) hr (by decide) (by rfl) (pa_cons (pv 0) (pa_cons pe_int pa_nil)) pass0))))) (blkOk_by (own := [("_law_x", 12)]) (N := N_Lnew_part) (sc := defScope s_Lnew_part) (by decide +kernel)) (fun _ _ _ _ _ => (pg_name (i := 12) sc_Lnew_part.nd rfl (Or.inl rfl))) (fun _ _ _ _ _ => pts_nil) (fun _ _ _ _ _ => (pe_tup (pa_cons (pv 12) (pa_cons (pe_ix (ix_tupK (K := K)) (pe_ok (ok_Lone_of T) hr (by decide) (by rfl) (pa_cons (pv 0) (pa_cons (pe_ix (ix_tupK (K := K)) (pv 4) pe_int (fun _ _ => rfl)) pa_nil)) pass0) pe_int (fun _ _ => rfl)) pa_nil))))) pa_nil)))
        (pss_cons (ps_par (i := 9) (j := 10) (by rfl) sc_Lnew_part.nd rfl rfl (by decide) rfl rfl (pa_cons (pe_ix ix_tup (pe_ok (ok_Lone_of T) hr (by decide) (by rfl) (pa_cons (pv 0) (pa_cons (pe_ix ix_tup (pv 4) pe_int (fun _ _ => rfl)) pa_nil)) pass0) pe_int (fun _ _ => rfl)) (pa_cons (pe_tup (pa_cons pe_str (pa_cons (pv 2) (pa_cons (pv 3) (pa_cons (pe_callTy call_tuple_of (by rfl) T.n_tuple (by decide +kernel) (pa_cons (pv 5) pa_nil)) pa_nil))))) pa_nil)) (by rfl))
        (pss_cons (ps_set (i := 11) sc_Lnew_part.nd rfl (Or.inl rfl) (pe_tup (pa_cons (pv 4) (pa_cons (pe_ok (ok_Lheads T) hr (by decide) (by rfl) (pa_cons (pe_op op_cat (pe_callTy call_list_of (by rfl) T.n_list (by decide +kernel) (pa_cons (pv 1) pa_nil)) (pe_lst (pa_cons (pv 10) pa_nil))) (pa_cons (pv 3) pa_nil)) pass0) (pa_cons (pe_slice sl_list (pv 6) (po_some pe_int) po_none) pa_nil)))))
        (pss_one (ps_expr (pe_bm PySem.F.plainAttrs_list PySem.F.slot_list_append PySem.F.type_list_append mt_append (pv 5) (pa_cons (pe_tup (pa_cons (pe_ix ix_list (pv 6) (pv 7) (fun _ _ => rfl)) (pa_cons (pv 8) (pa_cons (pv 9) (pa_cons (pe_ok (ok_Ldraw T 2) hr (by decide) (by rfl) (pa_cons (pv 0) (pa_cons (pv 11) (pa_cons (pv 9) (pa_cons (pe_callTy call_list_of (by rfl) T.n_list (by decide +kernel) (pa_cons (pv 8) pa_nil)) (pa_cons (pe_ix ix_list (pe_lst (pa_cons pe_int (pa_cons pe_int (pa_cons pe_int pa_nil)))) (pe_ok (ok_Ltake T) hr (by decide) (by rfl) (pa_cons (pv 0) (pa_cons pe_int pa_nil)) pass0) (fun _ _ => rfl)) pa_nil))))) pass0) pa_nil))))) pa_nil))))))))
      (pss_one (ps_ret (pe_tup (pa_cons pe_str (pa_cons (pv 2) (pa_cons (pv 3) (pa_cons (pe_callTy call_tuple_of (by rfl) T.n_tuple (by decide +kernel) (pa_cons (pv 5) pa_nil)) pa_nil))))))))), ?_⟩
    have nla : la ≠ b := bx.atR hla (tla.refs fun d hd => by
      obtain ⟨it, _, rfl⟩ := List.mem_map.mp hd
      exact It.tupD it)
    obtain ⟨okT, hTn⟩ := tongueOf_ok okW hown
    refine ⟨_, rfl, _, rfl, .ref la, own, tw, rfl, ⟨la, lv, rfl, .inl hla, tla⟩, by omega, fun tv H1 s1 dT => ⟨lz 0, fun DL nDL => ?_⟩⟩
    generalize hE : upd _ DL _ = H2
    obtain ⟨s2, e2⟩ := mk hE nDL
    have bx2 := (bx.same s1).same s2
    have nDLb : DL ≠ b := (bx.same s1).ne nDL
    refine ⟨_, rfl, b, 9, rfl, bx2, by decide, fun PL H3 nms hB3 bx3 nPL ePL lnm ndnm hnm => ⟨lz 3, fun p4 h4 => ?_⟩⟩
    generalize hE : upd _ p4 _ = H4
    obtain ⟨s4, e4⟩ := mk hE h4
    refine ⟨p4, _, rfl, .inl (.inl e4), rfl, _, _, rfl, _, _, rfl, _, _, rfl, rfl, ?_⟩
    have nPLb : PL ≠ b := bx2.ne nPL
    have nDLH : H DL = none := Same.free s1 nDL
    have hB24 : But b H2 H4 := hB3.trans (But.of s4)
    have eDL4 := hB24 _ _ nDLb e2
    have ePL4 := s4 _ _ ePL
    have nPD : PL ≠ DL := (ne_of_none e2 nPL).symm
    have hB04 : But b H H4 := (But.of (s1.trans s2)).trans hB24
    have bx4 := bx3.same s4
    have dT4 := dT.mono ((tk s2).trans (hB24.tup bx2))
    have nlD : la ≠ DL := ne_of_none hla nDLH
    generalize hTg : tongueOf tw own = Tg at okT hTn dT4
    have eT : ∀ rs, tongueOf (tw ++ [.part ⟨name, own, rs⟩]) own = Tg := fun rs => by
      rw [← hTg]
      exact tongueOf_app okW hown fun it hi => by
        rw [List.mem_singleton.mp hi]
        exact hnmn.2
    clear s1 s2 s4 hE dT e2 ePL e4 h4 nDL nPL hB3 bx3 bx2 hB24
    obtain ⟨aT, b1, b2, b3, b4, b5, b6, b7, rfl, hTB, t1, t2, t3, t4, t5, t6, t7⟩ := Td.i7 dT4
    obtain ⟨akb, kbv, rfl, hakb, hkb⟩ := Td.inv t4
    clear t1 t2 t3 t4 t5 t6 t7
    have hkbl : kbv.length = Tg.kinds.length := by rw [hkb.len, List.length_map]
    have hne := okT.kne
    have hkl2 := okT.klen
    -- how many
    refine ⟨_, rfl, lz 2, fun q5 h5 => ?_⟩
    generalize hE : upd _ q5 _ = H5
    obtain ⟨s5, e5⟩ := mk hE h5
    have nq5 : q5 ≠ b := bx4.ne h5
    refine ⟨_, rfl, b, 2, rfl, bx4.same s5, by decide, by decide, fun r H6 r0 r1 hB6 bx6 => ?_⟩
    obtain ⟨m, hm, hm1⟩ : ∃ m : Int, atI [V.int 2, V.int 4] r = some (.int m) ∧ (m = 2 ∨ m = 4) := by
      have : r = 0 ∨ r = 1 := by omega
      rcases this with rfl | rfl
      · exact ⟨2, rfl, .inl rfl⟩
      · exact ⟨4, rfl, .inr rfl⟩
    refine ⟨q5, _, r, .int m, rfl, rfl, .inl (.inl (hB6 _ _ nq5 e5)), hm, b, m, rfl, bx6, by omega, by omega, fun r2 H7 r20 r21 hB7 bx7 => ⟨_, _, rfl, rfl, _, rfl, by omega, by omega, ?_⟩⟩
    have hB47 : But b H4 H7 := (But.of s5).trans (hB6.trans hB7)
    clear hm e5 s5 hE h5 hB6 bx6
    refine for_it walk_range (fun i σ H' => ∃ y7 y8 y9 y10 y11, σ = [some (.ref b), some (.ref la), some (.str name), some (.str own), some (.ref aT), some (.ref DL), some (.ref PL), y7, y8, y9, y10, y11, none] ∧ But2 b DL H4 H' ∧ TupK H4 H' ∧ Bx H' b ∧
        ∃ (dv : List V) (rs : List Row), H' DL = some (.lst dv) ∧ Tds K H' dv (rs.map Row.data) ∧ rs.length = i ∧ rs.map (·.name) = nms.take i ∧ TwOk (tw ++ [.part ⟨name, own, rs⟩]))
      ⟨none, none, none, none, none, rfl, But2.of hB47, hB47.tup bx4, bx7, [], [], hB47 _ _ nDLb eDL4, .nil, rfl, rfl, okW.add (it := K27.It.part ⟨name, own, []⟩) hnmn hnew htl (fun t h => by cases h) (fun p h => by cases h; exact ⟨rfl, hown⟩)⟩ (fun _ _ _ _ _ => trivial) (fun i x σ Hc Hd hi hP hY => ?_) (fun σ Hc hP => ?_)
    · obtain ⟨y7, y8, y9, y10, y11, rfl, hBc, ktc, bxc, dv, rs, eDLd, tD, lrs, hrn, okR⟩ := hP
      obtain ⟨rfl, rfl⟩ := hY
      have hi4 : i < 4 := by omega
      have ePLd := hBc _ _ nPLb nPD ePL4
      have hdvl : dv.length = i := by rw [tD.len, List.length_map, lrs]
      -- the parameters
      refine ⟨_, rfl, _, rfl, _, rfl, b, 4, rfl, bxc, by decide, by decide, fun r4 H8 r40 r41 hB8 bx8 => ⟨_, _, rfl, rfl, _, rfl, PL, _, rfl, .inl (.inl (hB8 _ _ nPLb ePLd)), fun ps hps => ?_⟩⟩
      generalize hE : upd _ ps _ = H9
      obtain ⟨s9, e9⟩ := mk hE hps
      obtain ⟨r4, rfl⟩ : ∃ t : Nat, r4 = (t : Int) := ⟨r4.toNat, by omega⟩
      have e9' : H9 ps = some (.lst (((nms.drop 4).take (min (4 + r4) nms.length - 4)).map .str)) := by
        have := cut_mid (f := V.str) (l := nms) (a := 4) (c := 4 + r4) (by omega)
        rw [e9, ← this]
        rfl
      generalize hpx : (nms.drop 4).take (min (4 + r4) nms.length - 4) = px at e9'
      have hpxl : px.length ≤ 3 := by
        rw [← hpx, List.length_take, List.length_drop]
        omega
      have hpxs : px.Sublist nms := by
        rw [← hpx]
        exact (List.take_sublist _ _).trans (List.drop_sublist _ _)
      have nps : ps ≠ b := bx8.ne hps
      have bx9 := bx8.same s9
      have hBd9 : But b Hd H9 := hB8.trans (But.of s9)
      have k9 := ktc.trans (hBd9.tup bxc)
      refine ⟨ps, rfl, ⟨_, .inl (.inl e9')⟩, fun D3 nD3 => ?_⟩
      have nD3b : D3 ≠ b := bx9.ne nD3
      refine lc_it (walk_list (K := K) (a := ps) (xs := px.map V.str)) (fun j H' => But b H9 H' ∧ Bx H' b ∧ ∃ (acc : List V) (pr : List (Str × Str)), H' D3 = some (.lst acc) ∧ Tds K H' acc (pr.map pairD) ∧ pr.map (·.1) = px.take j ∧ ∀ q ∈ pr, q.2 ∈ Tg.ks) ⟨But.new nD3, bx9.keep nD3b.symm, [], [], upd_same, .nil, rfl, fun _ h => nomatch h⟩ (fun j H' _ hP => .inl (.inl (hP.1 _ _ nps e9'))) (fun j x Ha Hb hj hP hY => ?_) (fun Ha hP => ?_)
      · obtain ⟨hBa, bxa, acc, pr, ea, ta, hk1, hk2⟩ := hP
        obtain ⟨rfl, hx⟩ := hY
        obtain ⟨z, hz, rfl⟩ := map_at hx
        have kt := k9.trans (hBa.tup bx9)
        refine ⟨rfl, _, rfl, _, rfl, _, rfl, aT, _, 3, .ref akb, rfl, rfl, (hTB.mono kt).sq, rfl, b, .ref akb, kbv, rfl, bxa, .inr (.inl ⟨akb, rfl, hakb.mono kt⟩), by omega, by omega, fun x H12 hx12 hB12 bx12 => ?_⟩
        obtain ⟨l, hl⟩ := List.getElem?_of_mem hx12
        obtain ⟨dd, hdd, dx⟩ := (hkb.mono (kt.trans (hB12.tup bxa))).getV hl
        obtain ⟨q0, hq0, rfl⟩ := map_at hdd
        obtain ⟨e, u1, u2, rfl, hTe, k1, k2⟩ := Td.i2 dx
        obtain rfl := k1.strI
        refine ⟨e, _, 0, .str q0.1, rfl, rfl, hTe.sq, rfl, lz 2, fun pt hpt => ?_⟩
        generalize hE : upd _ pt _ = H13
        obtain ⟨s13, e13⟩ := mk hE hpt
        have hBd : But b Hb H13 := hB12.trans (But.of s13)
        have eD := hBd _ _ nD3b ea
        have hprl : pr.length ≤ 3 := by
          have := congrArg List.length hk1
          rw [List.length_map, List.length_take] at this
          omega
        refine ⟨acc, eD, ?_, (hBa.trans hBd).mut nD3, (bx12.same s13).keep nD3b.symm, _, pr ++ [(z, q0.1)], upd_same, ?_, ?_, fun q hq => ?_⟩
        · rw [ta.len, List.length_map]
          exact lzl (by omega)
        · rw [List.map_append]
          exact Tds.mono (TupK.put (TupK.refl _) eD rfl) ((ta.mono (hBd.tup bxa)).snoc (.at e13 (.cons (.str _) (.cons (.str _) .nil))))
        · rw [List.map_append, hk1, take_succ' hz]
          rfl
        · rcases List.mem_append.mp hq with hq | hq
          · exact hk2 q hq
          · rw [List.mem_singleton] at hq
            rw [hq]
            exact List.mem_map.mpr ⟨q0, List.mem_of_getElem? hq0, rfl⟩
      obtain ⟨hBa, bxa, acc, pr, ea, ta, hk1, hk2⟩ := hP
      rw [show px.take (px.map V.str).length = px from List.take_of_length_le (by rw [List.length_map]; exact Nat.le_refl _)] at hk1
      have hprl : pr.length ≤ 3 := by
        have := congrArg List.length hk1
        rw [List.length_map] at this
        omega
      refine ⟨D3, acc, rfl, .inl (.inl ea), fun pp ob hpp hob => ?_⟩
      generalize hE : upd _ pp _ = H14
      obtain ⟨s14, e14⟩ := mk hE hpp
      have hB14 : But b Hd H14 := hBd9.trans (hBa.trans (But.of s14))
      have bx14 := bxa.same s14
      have k14 := ktc.trans (hB14.tup bxc)
      have tpr : Tds K H14 acc (pr.map pairD) := ta.mono (tk s14)
      clear hE s14 ea hBa bxa ta hBd9 k9 e9 e9' s9 hB8 bx8 bx9 nD3 hpp hps
      -- the kind, the part so far
      refine ⟨_, rfl, _, rfl, aT, _, 3, .ref akb, rfl, rfl, (hTB.mono k14).sq, rfl, b, .ref akb, kbv, rfl, bx14, .inr (.inl ⟨akb, rfl, hakb.mono k14⟩), by omega, by omega, fun x H15 hx15 hB15 bx15 => ?_⟩
      obtain ⟨l, hl⟩ := List.getElem?_of_mem hx15
      obtain ⟨dd, hdd, dx⟩ := (hkb.mono (k14.trans (hB15.tup bx14))).getV hl
      obtain ⟨q0, hq0, rfl⟩ := map_at hdd
      obtain ⟨e, u1, u2, rfl, hTe, k1, k2⟩ := Td.i2 dx
      obtain rfl := k1.strI
      have hq0m : q0.1 ∈ Tg.ks := List.mem_map.mpr ⟨q0, List.mem_of_getElem? hq0, rfl⟩
      have hBd15 : But b Hd H15 := hB14.trans hB15
      refine ⟨e, _, 0, .str q0.1, rfl, rfl, hTe.sq, rfl, _, rfl, _, rfl, _, rfl, DL, dv, rfl, .inl ⟨.inl (.inl (hBd15 _ _ nDLb eDLd)), fun pt hpt => ?_⟩⟩
      generalize hE : upd _ pt _ = H16
      obtain ⟨s16, e16⟩ := mk hE hpt
      refine ⟨lz 4, fun ph hph => ⟨_, _, rfl, ?_⟩⟩
      generalize hE : upd _ ph _ = H17
      obtain ⟨s17, e17⟩ := mk hE hph
      have s1517 := s16.trans s17
      have hBd17 : But b Hd H17 := hBd15.trans (But.of s1517)
      have bx17 := bx15.same s1517
      have kd17 := hBd17.tup bxc
      have dPh : Td K H17 (.ref ph) (Part.data ⟨name, own, rs⟩) := .at e17 (.cons (.str _) (.cons (.str _) (.cons (.str _) (.cons (.at (s17 _ _ e16) (tD.mono kd17)) .nil))))
      have hla17 : H17 la = some (.lst lv) := hBd17 _ _ nla (hBc _ _ nla nlD (hB04 _ _ nla hla))
      -- the scene
      refine ⟨_, rfl, _, rfl, la, lv, rfl, .inl (.inl (.inl hla17)), fun lc hlc => ?_⟩
      generalize hE : upd _ lc _ = H18
      obtain ⟨s18, e18⟩ := mk hE hlc
      refine ⟨_, rfl, lz 1, fun ll hll => ?_⟩
      generalize hE : upd _ ll _ = H19
      obtain ⟨s19, e19⟩ := mk hE hll
      have hlvl : lv.length = tw.length := by rw [tla.len, List.length_map]
      refine ⟨lc, ll, lv, _, rfl, rfl, s19 _ _ e18, e19, lz _ (by show lv.length + 1 ≤ 100000; omega), fun lm hlm => ?_⟩
      generalize hE : upd _ lm _ = H20
      obtain ⟨s20, e20⟩ := mk hE hlm
      have s1720 := s18.trans (s19.trans s20)
      have tl20 : Tds K H20 (lv ++ [.ref ph]) ((tw ++ [K27.It.part ⟨name, own, rs⟩]).map It.data) := by
        rw [List.map_append]
        exact (tla.mono ((hB04.tup bx).trans (ktc.trans (kd17.trans (tk s1720))))).snoc (dPh.mono (tk s1720))
      have hHl : (headsOf (tw ++ [.part ⟨name, own, rs⟩]) own).length ≤ 500 := (heads_ok okR (own := own)).len
      refine ⟨_, rfl, .ref lm, own, tw ++ [K27.It.part ⟨name, own, rs⟩], rfl, ⟨lm, _, rfl, .inl e20, tl20⟩, okR.fin, by omega, fun hl H21 hxs s21 nhl ehl thl => ?_⟩
      have hBd21 : But b Hd H21 := hBd17.trans (But.of (s1720.trans s21))
      refine ⟨_, rfl, _, rfl, PL, _, rfl, .inl (.inl (hBd21 _ _ nPLb ePLd)), fun sl hsl => ?_⟩
      generalize hE : upd _ sl _ = H22
      obtain ⟨s22, e22⟩ := mk hE hsl
      have e22' : H22 sl = some (.lst ((nms.drop 4).map .str)) := by
        have := cut_from (f := V.str) (l := nms) (a := 4) (by omega)
        rw [e22, ← this]
        rfl
      refine ⟨lz 3, fun sc hsc => ?_⟩
      generalize hE : upd _ sc _ = H23
      obtain ⟨s23, e23⟩ := mk hE hsc
      have s2123 := s22.trans s23
      have hBd23 : But b Hd H23 := hBd21.trans (But.of s2123)
      have bx23 := ((bx17.same s1720).same s21).same s2123
      have kd23 := hBd23.tup bxc
      -- the row
      have hin : i < nms.length := by omega
      refine ⟨_, rfl, .inl ⟨rfl, _, .inl (.inl (hBd23 _ _ nDLb eDLd))⟩, _, rfl, _, rfl, PL, _, _, .str nms[i], rfl, rfl, .inl (.inl (hBd23 _ _ nPLb ePLd)), by rw [Int.zero_add]; exact atI_nat (by rw [List.getElem?_map, List.getElem?_eq_getElem hin]; rfl), _, rfl, _, rfl, _, rfl, _, rfl, _, rfl, _, rfl, pp, acc, rfl, .inr ?_, fun ls hls => ?_⟩
      · exact frz_sq ((hB15.trans ((But.of (b := b) s1517).trans (But.of (s1720.trans (s21.trans s2123))))) _ _ (fun e => by
          obtain ⟨_, _, _, hb'⟩ := bx14
          rw [e, hb'] at e14
          cases e14) e14)
      generalize hE : upd _ ls _ = H24
      obtain ⟨s24, e24⟩ := mk hE hls
      refine ⟨lz 3, fun q6 h6 => ?_⟩
      generalize hE : upd _ q6 _ = H25
      obtain ⟨s25, e25⟩ := mk hE h6
      have bx25 := (bx23.same s24).same s25
      have nq6 : q6 ≠ b := (bx23.same s24).ne h6
      refine ⟨_, rfl, b, 3, rfl, bx25, by decide, by decide, fun r5 H26 r50 r51 hB26 bx26 => ?_⟩
      obtain ⟨room, hroom, hr0, hr1⟩ : ∃ m : Int, atI [V.int 2, V.int 4, V.int 6] r5 = some (.int m) ∧ 0 ≤ m ∧ m < 8 := by
        have : r5 = 0 ∨ r5 = 1 ∨ r5 = 2 := by omega
        rcases this with rfl | rfl | rfl
        · exact ⟨2, rfl, by decide, by decide⟩
        · exact ⟨4, rfl, by decide, by decide⟩
        · exact ⟨6, rfl, by decide, by decide⟩
      refine ⟨q6, _, r5, .int room, rfl, rfl, .inl (.inl (hB26 _ _ nq6 e25)), hroom, ?_⟩
      have hB2326 : But b H23 H26 := (But.of (s24.trans s25)).trans hB26
      have hBd26 := hBd23.trans hB2326
      have k26 := ktc.trans (hBd26.tup bxc)
      have nlsb : ls ≠ b := bx23.ne hls
      have nslb : sl ≠ b := fun e => by
        have h1 := bx23.at (s23 _ _ e22')
        exact h1 e
      have hhsl : hl ≠ b := bx23.atR (s2123 _ _ ehl) (thl.refs fun d hd => by
        obtain ⟨h, _, rfl⟩ := List.mem_map.mp hd
        exact ⟨_, rfl⟩)
      have hkk : TupK H14 H26 := (hB15.tup bx14).trans ((tk s1517).trans ((tk (s1720.trans (s21.trans s2123))).trans (hB2326.tup bx23)))
      have hdr4 : (nms.drop 4).length = 5 := by rw [List.length_drop]; omega
      have hHok := heads_ok okR (own := own)
      rw [eT] at hHok
      have hpn : ∀ q ∈ pr, isNm q.1 = true := fun q hq => by
        have h1 : q.1 ∈ px := by rw [← hk1]; exact List.mem_map.mpr ⟨q, hq, rfl⟩
        exact (hnm _ (hpxs.subset h1)).1
      have dr : Dr K 2 H26 b sc ls hl sl (.ref aT) room q0.1 Tg (headsOf (tw ++ [.part ⟨name, own, rs⟩]) own) hxs acc (nms.drop 4) pr :=
        ⟨bx26, hr0, hr1, .inl ((hB2326.tup bx23) _ _ rfl e23), dT4.mono k26, hB2326 _ _ hhsl (s2123 _ _ ehl), thl.mono ((tk s2123).trans (hB2326.tup bx23)), hB2326 _ _ nslb (s23 _ _ e22'), (hB26 _ _ nlsb (s25 _ _ e24)), tpr.mono hkk, okT, hHok, hq0m, ndnm.sublist (List.drop_sublist _ _), (fun z hz => (hnm z ((List.drop_sublist _ _).subset hz)).1), .inl (by omega), by omega, by omega, hpn⟩
      refine ⟨b, sc, ls, hl, sl, _, room, q0.1, Tg, _, hxs, acc, nms.drop 4, pr, rfl, dr, fun vt H27 t hB27 bx27 dt ht hg hp hd => ⟨lz 4, fun pf hpf => ?_⟩⟩
      generalize hE : upd _ pf _ = H28
      obtain ⟨s28, e28⟩ := mk hE hpf
      have hB2628 : But b H26 H28 := hB27.trans (But.of s28)
      have hBd28 := hBd26.trans hB2628
      have eDL28 := hBd28 _ _ nDLb eDLd
      have kd28 := hBd28.tup bxc
      have k1428 := hkk.trans (hB2628.tup bx26)
      have rowOk : RowOk Tg (headsOf (tw ++ [.part ⟨name, own, rs⟩]) own) ⟨nms[i], pr, q0.1, t⟩ :=
        ⟨(hnm _ (List.getElem_mem hin)).1, hprl, by show (pr.map (·.1)).Nodup; rw [hk1]; exact ndnm.sublist hpxs, fun q hq => ⟨hpn q hq, hk2 q hq⟩, hq0m, hg, ht, hp, hd⟩
      refine ⟨DL, dv, _, rfl, rfl, eDL28, lzl (by omega), _, _, _, _, _, rfl, (hBc.trans (But2.of hBd28)).put, TupK.trans (ktc.trans kd28) (TupK.put (TupK.refl _) eDL28 rfl), (bx27.same s28).keep nDLb.symm, dv ++ [.ref pf], rs ++ [⟨nms[i], pr, q0.1, t⟩], upd_same, ?_, by rw [List.length_append, lrs]; rfl, ?_, ?_⟩
      · rw [List.map_append]
        exact Tds.mono (TupK.put (TupK.refl _) eDL28 rfl) ((tD.mono kd28).snoc (.at e28 (.cons (.str _) (.cons (.ptup (k1428 _ _ rfl e14) hob (tpr.mono k1428)) (.cons (.str _) (.cons (dt.mono (tk s28)) .nil))))))
      · rw [List.map_append, hrn, take_succ' (List.getElem?_eq_getElem hin)]
        rfl
      · refine okR.row (by rw [eT]; exact rowOk) ?_ (by omega)
        rw [hrn]
        intro hm
        obtain ⟨j, hj⟩ := List.getElem?_of_mem hm
        have hj2 := (List.getElem?_eq_some_iff.mp hj).1
        rw [List.length_take] at hj2
        rw [List.getElem?_take, if_pos (by omega)] at hj
        have := nd_ix ndnm hj (List.getElem?_eq_getElem hin)
        omega
    · obtain ⟨y7, y8, y9, y10, y11, rfl, hBc, ktc, bxc, dv, rs, eDLd, tD, lrs, hrn, okR⟩ := hP
      refine ⟨_, rfl, _, rfl, _, rfl, DL, dv, rfl, .inl ⟨.inl (.inl eDLd), fun pt hpt => ?_⟩⟩
      generalize hE : upd _ pt _ = H8
      obtain ⟨s8, e8⟩ := mk hE hpt
      refine ⟨lz 4, fun pf hpf => ?_⟩
      generalize hE : upd _ pf _ = H9
      obtain ⟨s9, e9⟩ := mk hE hpf
      exact q _ _ ⟨name, own, rs⟩ ((hBc.new hB04 nDLH).trans (But.of (s8.trans s9))) (bxc.same (s8.trans s9)) (.at e9 (.cons (.str _) (.cons (.str _) (.cons (.str _) (.cons (.at (s9 _ _ e8) (tD.mono (tk (s8.trans s9)))) .nil))))) rfl okR
end K27

set_option maxHeartbeats 8000000
namespace K27
open PySem PySem.Spec PyProof.Rows L2
variable {P : Program} {w : World} {K : PySem.W.Frag} {mg : Str → Option Value} {base : Heap}
/-- the lists while a tower is made -/
structure Tws (K : PySem.W.Frag) (H : Hp) (IL TL NL : Addr) (k : Nat) (lv : List V) (tw : List It) (ts rem : List Str) : Prop where
  il : H IL = some (.lst lv)
  lv : Tds K H lv (tw.map It.data)
  ok : TwOk tw
  tl : H TL = some (.lst (ts.map .str))
  ts0 : 0 < ts.length
  own : ∀ x ∈ ts, OwnOk tw x
  nl : H NL = some (.lst (rem.map .str))
  nd : rem.Nodup
  nm : ∀ x ∈ rem, Nm x ∧ x ∉ tw.map It.name
  r8 : 8 ≤ rem.length + k
  tw8 : tw.length ≤ 1 + k
  ts8 : ts.length ≤ 1 + k
theorem Tws.but {b IL TL NL : Addr} {k : Nat} {H H' : Hp} {lv : List V} {tw : List It} {ts rem : List Str} (h : Tws K H IL TL NL k lv tw ts rem) (bx : Bx H b) (hB : But b H H') (n1 : IL ≠ b) (n2 : TL ≠ b) (n3 : NL ≠ b) : Tws K H' IL TL NL k lv tw ts rem :=
  ⟨hB _ _ n1 h.il, h.lv.mono (hB.tup bx), h.ok, hB _ _ n2 h.tl, h.ts0, h.own, hB _ _ n3 h.nl, h.nd, h.nm, h.r8, h.tw8, h.ts8⟩
def spTower (K : PySem.W.Frag) : Sp := fun vs H Q _ => ∃ (b : Addr), vs = [.ref b] ∧ Bx H b ∧
  ∀ v H' tw, But b H H' → Bx H' b → Td K H' v (.tuple (tw.map It.data)) → TwOk tw → Q v H'
abbrev N_Ltower : List Str := ["_law_box_here", "_law_names", "_law_items_here", "_law_tongues", "_law_k", "_law_below", "_law_own"]
theorem sc_Ltower : FnScope N_Ltower ["_law_box_here"] (defScope s_Ltower) := ⟨rfl, rfl, rfl, by decide +kernel, rfl, by decide +kernel, by decide +kernel⟩
theorem ok_Ltower (T : TX K mg) : Ok P w K mg base CX0 8 "_law_tower" ["_law_box_here"] (spTower K) := by
  refine Ok.mk' T T.m_Ltower T.f_Ltower sc_Ltower (fun vs H Q E h => ?_) (fun _ _ _ _ _ _ us hl => match us, hl with | [_], _ => rfl) (fun cdv A outer s H vs Q E hr h => ?_)
  · obtain ⟨b, rfl, _⟩ := h
    rfl
  · obtain ⟨b, rfl, bx, q⟩ := h
    refine ⟨_, (pss_cons (ps_par3 (i := 1) (j := 2) (l := 3) (by rfl) sc_Ltower.nd rfl rfl rfl (by decide) (by decide) (by decide) rfl rfl rfl (pa_cons (pe_ok (ok_Lpool T) hr (by decide) (by rfl) (pa_cons (pv 0) (pa_cons pe_int pa_nil)) pass0) (pa_cons (pe_lst pa_nil) (pa_cons (pe_lst (pa_cons pe_str pa_nil)) pa_nil))) (by rfl))
      (Evl.pss_cut (ps_if (pt_cmpR op_eq (pe_ok (ok_Ltake T) hr (by decide) (by rfl) (pa_cons (pv 0) (pa_cons pe_int pa_nil)) pass0) pe_int (nomark _))
        (pss_one (ps_expr (pe_bm PySem.F.plainAttrs_list PySem.F.slot_list_append PySem.F.type_list_append mt_append (pv 2) (pa_cons (pe_ok (ok_Lnew_part T) hr (by decide) (by rfl) (pa_cons (pv 0) (pa_cons (pv 2) (pa_cons (pe_bm0 PySem.F.plainAttrs_list PySem.F.slot_list_pop PySem.F.type_list_pop mt_pop (pv 1)) (pa_cons pe_str pa_nil)))) pass0) pa_nil))))
        pss_nil)
      (pss_cons (ps_for PassesOwn.never rfl (pi_range1 (by rfl) T.n_range (pa_cons (pe_op op_add pe_int (pe_ok (ok_Ltake T) hr (by decide) (by rfl) (pa_cons (pv 0) (pa_cons pe_int pa_nil)) pass0)) pa_nil)) (pg_name (i := 4) sc_Ltower.nd rfl (.inl rfl))
        (pss_cons (ps_set (i := 5) sc_Ltower.nd rfl (Or.inl rfl) (pe_ix ix_list (pv 3) (pe_callB (call_max2 rfl) (by rfl) T.n_max (by decide +kernel) (pa_cons pe_int (pa_cons (pe_op op_sub (pe_op op_sub (pe_callB call_len_seq (by rfl) T.n_len PySem.boot_len (pa_cons (pv 3) pa_nil)) pe_int) (pe_op op_fdiv (pe_ok (ok_Ltake T) hr (by decide) (by rfl) (pa_cons (pv 0) (pa_cons pe_int pa_nil)) pass0) pe_int)) pa_nil))) (fun _ _ => rfl)))
        (pss_cons (ps_expr (pe_bm PySem.F.plainAttrs_list PySem.F.slot_list_append PySem.F.type_list_append mt_append (pv 3) (pa_cons (pe_bm0 PySem.F.plainAttrs_list PySem.F.slot_list_pop PySem.F.type_list_pop mt_pop (pv 1)) pa_nil)))
        (pss_cons (ps_expr (pe_bm PySem.F.plainAttrs_list PySem.F.slot_list_append PySem.F.type_list_append mt_append (pv 2) (pa_cons (pe_ok (ok_Lnew_tongue T) hr (by decide) (by rfl) (pa_cons (pv 0) (pa_cons (pv 2) (pa_cons (pe_ix ix_list (pv 3) (pe_un un_neg pe_int) (fun _ _ => rfl)) (pa_cons (pv 5) pa_nil)))) pass0) pa_nil)))
        (pss_cons (ps_set (i := 6) sc_Ltower.nd rfl (Or.inl rfl) (pe_ix ix_list (pv 3) (pe_callB (call_max2 rfl) (by rfl) T.n_max (by decide +kernel) (pa_cons pe_int (pa_cons (pe_op op_sub (pe_op op_sub (pe_callB call_len_seq (by rfl) T.n_len PySem.boot_len (pa_cons (pv 3) pa_nil)) pe_int) (pe_op op_fdiv (pe_ok (ok_Ltake T) hr (by decide) (by rfl) (pa_cons (pv 0) (pa_cons pe_int pa_nil)) pass0) pe_int)) pa_nil))) (fun _ _ => rfl)))
        (pss_one (ps_if (PW.pt (pw_or (pt_cmpR op_gt (pe_ok (ok_Ltake T) hr (by decide) (by rfl) (pa_cons (pv 0) (pa_cons pe_int pa_nil)) pass0) pe_int (nomark _)) (pw_or1 (pt_cmpR op_eq (pe_callB call_len_seq (by rfl) T.n_len PySem.boot_len (pa_cons (pv 2) pa_nil)) (pe_op op_add (pv 4) pe_int) (nomark _)))))
          (pss_one (ps_expr (pe_bm PySem.F.plainAttrs_list PySem.F.slot_list_append PySem.F.type_list_append mt_append (pv 2) (pa_cons (pe_ok (ok_Lnew_part T) hr (by decide) (by rfl) (pa_cons (pv 0) (pa_cons (pv 2) (pa_cons (pe_bm0 PySem.F.plainAttrs_list PySem.F.slot_list_pop PySem.F.type_list_pop mt_pop (pv 1)) (pa_cons (pv 6) pa_nil)))) pass0) pa_nil))))
          pss_nil)))))))
      (pss_one (ps_ret (pe_callTy call_tuple_of (by rfl) T.n_tuple (by decide +kernel) (pa_cons (pv 2) pa_nil))))))), ?_⟩
    refine ⟨_, rfl, b, 9, rfl, bx, by decide, fun NL H1 nms hB1 bx1 nNL eNL lnm ndnm hnm => ⟨lz 0, fun IL nIL => ?_⟩⟩
    generalize hE : upd _ IL _ = H2
    obtain ⟨s2, e2⟩ := mk hE nIL
    refine ⟨lz 1, fun TL nTL => ⟨_, _, _, rfl, ?_⟩⟩
    generalize hE : upd _ TL _ = H3
    obtain ⟨s3, e3⟩ := mk hE nTL
    have nNLb : NL ≠ b := bx.ne nNL
    have nILb : IL ≠ b := bx1.ne nIL
    have nTLb : TL ≠ b := (bx1.same s2).ne nTL
    have nILH : H IL = none := hB1.free nILb nIL
    have nTLH : H TL = none := hB1.free nTLb (Same.free s2 nTL)
    have nNI : NL ≠ IL := ne_of_none eNL nIL
    have nNT : NL ≠ TL := ne_of_none (s2 _ _ eNL) nTL
    have nIT : IL ≠ TL := ne_of_none e2 nTL
    have hB3 : But b H H3 := hB1.trans (But.of (s2.trans s3))
    have bx3 := (bx1.same s2).same s3
    have st3 : Tws K H3 IL TL NL 1 [] [] [("ground" : Str)] nms :=
      ⟨s3 _ _ e2, .nil, ⟨List.nodup_nil, (fun _ h => nomatch h), (fun _ h => nomatch h), (fun _ h => nomatch h), by decide⟩, e3, by decide, (fun x hx => .inl (by simpa using hx)), (s2.trans s3) _ _ eNL, ndnm, (fun x hx => ⟨hnm x hx, fun h => nomatch h⟩), by omega, by decide, by decide⟩
    clear hB1 s2 s3 e2 e3 eNL hE nIL nTL bx1
    -- a part more
    have addPart : ∀ (H4 : Hp) (k : Nat) (lv : List V) (tw : List It) (ts rem : List Str) (own : Str), But b H H4 → Bx H4 b → Tws K H4 IL TL NL k lv tw ts rem → OwnOk tw own → k < 8 →
        ∃ l xs y, V.ref NL = .ref l ∧ H4 l = some (.lst xs) ∧ xs[xs.length - 1]? = some y ∧ spNewPart K [.ref b, .ref IL, y, .str own] (upd H4 l (.lst xs.dropLast)) (fun v H5 => H5 IL = some (.lst lv) ∧ ∀ H6, H6 = upd H5 IL (.lst (lv ++ [v])) → But b H H6 ∧ Bx H6 b ∧ ∃ tw' rem', Tws K H6 IL TL NL (k + 1) (lv ++ [v]) tw' ts rem' ∧ tw'.length = tw.length + 1) E := by
      intro H4 k lv tw ts rem own hB bx st ho hk
      have hrl : 0 < rem.length := by have := st.r8; omega
      obtain ⟨rem', x, rfl⟩ : ∃ r x, rem = r ++ [x] := ⟨rem.dropLast, rem.getLast (List.ne_nil_of_length_pos hrl), (List.dropLast_concat_getLast _).symm⟩
      refine ⟨NL, _, .str x, rfl, st.nl, by simp, ?_⟩
      have hdl : ((rem' ++ [x]).map V.str).dropLast = rem'.map V.str := by simp
      rw [hdl]
      generalize hE : upd H4 NL _ = H5
      have e5 : H5 NL = some (.lst (rem'.map .str)) := by rw [← hE]; exact upd_same
      have k45 : TupK H4 H5 := by rw [← hE]; exact TupK.put (TupK.refl _) st.nl rfl
      have o5 : ∀ c, c ≠ NL → H5 c = H4 c := fun c hc => by rw [← hE, upd_ne hc]
      have hB5 : But b H H5 := by rw [← hE]; exact hB.mut nNL
      have bx5 : Bx H5 b := by rw [← hE]; exact bx.keep nNLb.symm
      obtain ⟨hx1, hx2⟩ := st.nm x (List.mem_append_right _ (List.mem_singleton.mpr rfl))
      have htw := st.tw8
      refine ⟨b, IL, lv, x, own, tw, rfl, bx5, by rw [o5 _ nNI.symm]; exact st.il, st.lv.mono k45, st.ok, ho, hx1, hx2, by omega, fun v H6 p hB6 bx6 dp hpn ok' => ⟨hB6 _ _ nILb (by rw [o5 _ nNI.symm]; exact st.il), fun H7 e7 => ?_⟩⟩
      have eIL6 : H6 IL = some (.lst lv) := hB6 _ _ nILb (by rw [o5 _ nNI.symm]; exact st.il)
      have k67 : TupK H6 H7 := by rw [e7]; exact TupK.put (TupK.refl _) eIL6 rfl
      have o7 : ∀ c, c ≠ IL → H7 c = H6 c := fun c hc => by rw [e7, upd_ne hc]
      have ndr := List.nodup_append.mp st.nd
      refine ⟨by rw [e7]; exact (hB5.trans hB6).mut nILH, by rw [e7]; exact bx6.keep nILb.symm, tw ++ [.part p], rem', ⟨by rw [e7]; exact upd_same, ?_, ok', ?_, st.ts0, fun z hz => (st.own z hz).mono, ?_, ndr.1, fun z hz => ?_, ?_, ?_, ?_⟩, by rw [List.length_append]; rfl⟩
      · rw [List.map_append]
        exact Tds.mono k67 ((st.lv.mono (k45.trans (hB6.tup bx5))).snoc dp)
      · rw [o7 _ nIT.symm]
        exact hB6 _ _ nTLb (by rw [o5 _ nNT.symm]; exact st.tl)
      · rw [o7 _ nNI]
        exact hB6 _ _ nNLb e5
      · obtain ⟨h1, h2⟩ := st.nm z (List.mem_append_left _ hz)
        refine ⟨h1, fun h => ?_⟩
        rw [List.map_append] at h
        rcases List.mem_append.mp h with h | h
        · exact h2 h
        · have : z = p.name := by simpa [It.name] using h
          rw [hpn] at this
          exact ndr.2.2 z hz x (List.mem_singleton.mpr rfl) this
      · have := st.r8
        rw [List.length_append] at this
        simp only [List.length_cons, List.length_nil] at this
        omega
      · rw [List.length_append]
        exact Nat.succ_le_succ htw
      · have := st.ts8
        omega
    refine ⟨fun σ H' => σ = [some (.ref b), some (.ref NL), some (.ref IL), some (.ref TL), none, none, none] ∧ But b H H' ∧ Bx H' b ∧ ∃ lv tw rem, Tws K H' IL TL NL 2 lv tw [("ground" : Str)] rem, ?_, ?_⟩
    · refine ⟨_, rfl, b, 2, rfl, bx3, by decide, by decide, fun r H4 r0 r1 hB4 bx4 => ⟨rfl, _, rfl, ite2 (fun _ => ?_) (fun _ => ?_)⟩⟩
      · have st4 := st3.but bx3 hB4 nILb nTLb nNLb
        refine ⟨_, rfl, .inl ⟨rfl, _, .inl (.inl st4.il)⟩, _, rfl, _, rfl, _, rfl, .inl ⟨rfl, _, .inl (.inl st4.nl)⟩, ?_⟩
        obtain ⟨l, xs, y, g1, g2, g3, g4⟩ := addPart H4 1 [] [] _ nms "ground" (hB3.trans hB4) bx4 st4 (.inl rfl) (by decide)
        refine ⟨l, xs, y, g1, rfl, g2, g3, ?_⟩
        obtain ⟨b', la, lv, nm', ow', tw', k1, k2, k3, k4, k5, k6, k7, k8, k9, k10⟩ := g4
        refine ⟨b', la, lv, nm', ow', tw', k1, k2, k3, k4, k5, k6, k7, k8, k9, fun v H6 p hB bx dp hn ok' => ?_⟩
        obtain ⟨j1, j2⟩ := k10 v H6 p hB bx dp hn ok'
        refine ⟨IL, [], v, rfl, rfl, j1, lzl (by show 0 < 100000; decide), ?_⟩
        obtain ⟨m1, m2, tw2, rem2, m3, _⟩ := j2 _ rfl
        exact ⟨rfl, m1, m2, _, tw2, rem2, m3⟩
      · have st4 := st3.but bx3 hB4 nILb nTLb nNLb
        exact ⟨rfl, hB3.trans hB4, bx4, [], [], nms, { st4 with r8 := by have := st4.r8; omega, tw8 := by decide, ts8 := by decide }⟩
    rintro σ' H4 ⟨rfl, hB4, bx4, lv4, tw4, rem4, st4⟩
    refine ⟨_, rfl, b, 3, rfl, bx4, by decide, by decide, fun r H5 r0 r1 hB5 bx5 => ⟨_, _, rfl, rfl, _, rfl, by omega, by omega, ?_⟩⟩
    refine for_it walk_range (fun i σ H' => ∃ y4 y5 y6, σ = [some (.ref b), some (.ref NL), some (.ref IL), some (.ref TL), y4, y5, y6] ∧ But b H H' ∧ Bx H' b ∧ ∃ lv tw ts rem, Tws K H' IL TL NL (2 + 2 * i) lv tw ts rem)
      ⟨none, none, none, rfl, hB4.trans hB5, bx5, _, _, _, _, st4.but bx4 hB5 nILb nTLb nNLb⟩ (fun _ _ _ _ _ => trivial) (fun i x σ Hc Hd hi hP hY => ?_) (fun σ Hc hP => ?_)
    · obtain ⟨y4, y5, y6, rfl, hBc, bxc, lv, tw, ts, rem, st⟩ := hP
      obtain ⟨rfl, rfl⟩ := hY
      have hi3 : i < 3 := by omega
      have ixj : ∀ (n : Nat) (r : Int), 0 < n → 0 ≤ r → r < 4 → ∃ j : Nat, (if (n : Int) - 1 - r / 3 > 0 then (n : Int) - 1 - r / 3 else 0) = (j : Int) ∧ j < n := fun n r hn h1 h2 => by
        by_cases h : (n : Int) - 1 - r / 3 > 0
        · rw [if_pos h]
          exact ⟨((n : Int) - 1 - r / 3).toNat, by omega, by omega⟩
        · rw [if_neg h]
          exact ⟨0, rfl, hn⟩
      -- what is below
      refine ⟨_, rfl, _, rfl, TL, _, rfl, .inl (.inl (.inl st.tl)), _, _, rfl, rfl, _, rfl, b, 4, rfl, bxc, by decide, by decide, fun r2 H6 r20 r21 hB6 bx6 => ⟨_, _, rfl, rfl, ⟨by decide, by decide⟩, _, _, rfl, rfl, _, _, rfl, ?_⟩⟩
      have st6 := st.but bxc hB6 nILb nTLb nNLb
      obtain ⟨j, hj1, hj2⟩ := ixj ts.length r2 st.ts0 r20 r21
      refine ⟨TL, _, _, .str ts[j], rfl, rfl, .inl (.inl st6.tl), ?_, ?_⟩
      · rw [List.length_map, hj1]
        exact atI_nat (by rw [List.getElem?_map, List.getElem?_eq_getElem hj2]; rfl)
      have hbo := st.own ts[j] (List.getElem_mem hj2)
      -- a name for it
      have hrl : 0 < rem.length := by have := st.r8; omega
      obtain ⟨rem', x, rfl⟩ : ∃ r x, rem = r ++ [x] := ⟨rem.dropLast, rem.getLast (List.ne_nil_of_length_pos hrl), (List.dropLast_concat_getLast _).symm⟩
      have hts := st.ts8
      refine ⟨_, rfl, .inl ⟨rfl, _, .inl (.inl st6.tl)⟩, _, rfl, .inl ⟨rfl, _, .inl (.inl st6.nl)⟩, NL, _, .str x, rfl, rfl, st6.nl, by simp, TL, _, _, rfl, rfl, (by rw [upd_ne nNT.symm]; exact st6.tl), (by rw [List.length_map]; exact lzl (by omega)), ?_⟩
      have hdl : ((rem' ++ [x]).map V.str).dropLast = rem'.map V.str := by simp
      rw [hdl]
      generalize hE : upd (upd H6 NL _) TL _ = H7
      have e7N : H7 NL = some (.lst (rem'.map .str)) := by rw [← hE, upd_ne nNT, upd_same]
      have e7T : H7 TL = some (.lst ((ts ++ [x]).map .str)) := by rw [← hE, upd_same, List.map_append]; rfl
      have o7 : ∀ c, c ≠ NL → c ≠ TL → H7 c = H6 c := fun c h1 h2 => by rw [← hE, upd_ne h2, upd_ne h1]
      have k67 : TupK H6 H7 := by
        rw [← hE]
        exact TupK.put (TupK.put (TupK.refl _) st6.nl rfl) st6.tl rfl
      have hB7 : But b H H7 := by rw [← hE]; exact ((hBc.trans hB6).mut nNL).mut nTLH
      have bx7 : Bx H7 b := by rw [← hE]; exact (bx6.keep nNLb.symm).keep nTLb.symm
      have e7I : H7 IL = some (.lst lv) := by rw [o7 _ nNI.symm nIT]; exact st6.il
      obtain ⟨hx1, hx2⟩ := st.nm x (List.mem_append_right _ (List.mem_singleton.mpr rfl))
      have htw := st.tw8
      have hlvl : lv.length = tw.length := by rw [st.lv.len, List.length_map]
      have tl7 := st6.lv.mono k67
      -- the tongue
      refine ⟨_, rfl, .inl ⟨rfl, _, .inl (.inl e7I)⟩, _, rfl, _, rfl, _, rfl, _, rfl, TL, _, _, .str x, rfl, rfl, .inl (.inl e7T), (by rw [List.map_append]; exact atI_last _ _), _, rfl, b, .ref IL, x, ts[j], tw, rfl, bx7, ⟨IL, lv, rfl, .inl e7I, tl7⟩, by omega, (tongueOf_ok st.ok hbo).1, fun v H8 t hB8 bx8 dt okt htn htb => ?_⟩
      have e8I := hB8 _ _ nILb e7I
      refine ⟨IL, lv, v, rfl, rfl, e8I, lzl (by omega), ?_⟩
      generalize hE : upd H8 IL _ = H9
      have k89 : TupK H8 H9 := by rw [← hE]; exact TupK.put (TupK.refl _) e8I rfl
      have o9 : ∀ c, c ≠ IL → H9 c = H8 c := fun c h1 => by rw [← hE, upd_ne h1]
      have hB9 : But b H H9 := by rw [← hE]; exact (hB7.trans hB8).mut nILH
      have bx9 : Bx H9 b := by rw [← hE]; exact bx8.keep nILb.symm
      have ndr := List.nodup_append.mp st.nd
      have okW : TwOk (tw ++ [.tong t]) := st.ok.add (it := K27.It.tong t) (by show Nm t.name; rw [htn]; exact hx1) (by show t.name ∉ _; rw [htn]; exact hx2) (by omega) (fun t' h => by cases h; exact okt) (fun p h => by cases h)
      have st9 : Tws K H9 IL TL NL (2 + 2 * i + 1) (lv ++ [v]) (tw ++ [.tong t]) (ts ++ [x]) rem' := by
        refine ⟨by rw [← hE]; exact upd_same, ?_, okW, ?_, by rw [List.length_append]; exact Nat.succ_pos _, fun z hz => ?_, ?_, ndr.1, fun z hz => ?_, ?_, ?_, ?_⟩
        · rw [List.map_append]
          exact Tds.mono k89 ((tl7.mono (hB8.tup bx7)).snoc dt)
        · rw [o9 _ nIT.symm]
          exact hB8 _ _ nTLb e7T
        · rcases List.mem_append.mp hz with hz | hz
          · exact (st.own z hz).mono
          · rw [List.mem_singleton] at hz
            exact .inr ⟨t, List.mem_append_right _ (List.mem_singleton.mpr rfl), by rw [htn, hz]⟩
        · rw [o9 _ nNI]
          exact hB8 _ _ nNLb e7N
        · obtain ⟨h1, h2⟩ := st.nm z (List.mem_append_left _ hz)
          refine ⟨h1, fun h => ?_⟩
          rw [List.map_append] at h
          rcases List.mem_append.mp h with h | h
          · exact h2 h
          · have : z = t.name := by simpa [It.name] using h
            rw [htn] at this
            exact ndr.2.2 z hz x (List.mem_singleton.mpr rfl) this
        · have := st.r8
          rw [List.length_append] at this
          simp only [List.length_cons, List.length_nil] at this
          omega
        · rw [List.length_append]
          simp only [List.length_cons, List.length_nil]
          omega
        · rw [List.length_append]
          simp only [List.length_cons, List.length_nil]
          omega
      clear st6 tl7 e7N e7T e7I o7 o9 hE
      -- whose the part is
      refine ⟨_, rfl, _, rfl, TL, _, rfl, .inl (.inl (.inl st9.tl)), _, _, rfl, rfl, _, rfl, b, 4, rfl, bx9, by decide, by decide, fun r3 H10 r30 r31 hB10 bx10 => ⟨_, _, rfl, rfl, ⟨by decide, by decide⟩, _, _, rfl, rfl, _, _, rfl, ?_⟩⟩
      have st10 := st9.but bx9 hB10 nILb nTLb nNLb
      obtain ⟨j2, hj3, hj4⟩ := ixj (ts ++ [x]).length r3 st9.ts0 r30 r31
      refine ⟨TL, _, _, .str (ts ++ [x])[j2], rfl, rfl, .inl (.inl st10.tl), ?_, ?_⟩
      · rw [List.length_map, hj3]
        exact atI_nat (by rw [List.getElem?_map, List.getElem?_eq_getElem hj4]; rfl)
      have hoo := st9.own _ (List.getElem_mem hj4)
      generalize (ts ++ [x])[j2] = own at hoo
      refine ⟨_, rfl, b, 3, rfl, bx10, by decide, by decide, fun r5 H11 r50 r51 hB11 bx11 => ?_⟩
      have st11 := st10.but bx10 hB11 nILb nTLb nNLb
      have hB011 := (hB9.trans hB10).trans hB11
      refine ⟨_, _, rfl, rfl, _, rfl, ite2 (fun _ => ?_) (fun _ => ?_)⟩
      · refine ⟨_, rfl, .inl ⟨rfl, _, .inl (.inl st11.il)⟩, _, rfl, _, rfl, _, rfl, .inl ⟨rfl, _, .inl (.inl st11.nl)⟩, ?_⟩
        obtain ⟨l, xs, y, g1, g2, g3, g4⟩ := addPart H11 _ _ _ _ _ own hB011 bx11 st11 hoo (by omega)
        refine ⟨l, xs, y, g1, rfl, g2, g3, _, rfl, ?_⟩
        obtain ⟨b', la, lv', nm', ow', tw', k1, k2, k3, k4, k5, k6, k7, k8, k9, k10⟩ := g4
        refine ⟨b', la, lv', nm', ow', tw', k1, k2, k3, k4, k5, k6, k7, k8, k9, fun v' H6' p hB bx dp hn ok' => ?_⟩
        obtain ⟨m1, m2⟩ := k10 v' H6' p hB bx dp hn ok'
        have hl2 : (lv ++ [v]).length < 100000 := by rw [List.length_append]; simp only [List.length_cons, List.length_nil]; omega
        refine ⟨IL, _, v', rfl, rfl, m1, lzl hl2, ?_⟩
        obtain ⟨n1, n2, tw2, rem2, n3, _⟩ := m2 _ rfl
        exact ⟨_, _, _, rfl, n1, n2, _, tw2, _, rem2, n3⟩
      · refine ⟨_, rfl, IL, _, rfl, .inl (.inl (.inl st11.il)), _, rfl, _, _, rfl, rfl, rfl, _, rfl, ite2 (fun _ => ?_) (fun _ => ?_)⟩
        · refine ⟨_, rfl, .inl ⟨rfl, _, .inl (.inl st11.il)⟩, _, rfl, _, rfl, _, rfl, .inl ⟨rfl, _, .inl (.inl st11.nl)⟩, ?_⟩
          obtain ⟨l, xs, y, g1, g2, g3, g4⟩ := addPart H11 _ _ _ _ _ own hB011 bx11 st11 hoo (by omega)
          refine ⟨l, xs, y, g1, rfl, g2, g3, _, rfl, ?_⟩
          obtain ⟨b', la, lv', nm', ow', tw', k1, k2, k3, k4, k5, k6, k7, k8, k9, k10⟩ := g4
          refine ⟨b', la, lv', nm', ow', tw', k1, k2, k3, k4, k5, k6, k7, k8, k9, fun v' H6' p hB bx dp hn ok' => ?_⟩
          obtain ⟨m1, m2⟩ := k10 v' H6' p hB bx dp hn ok'
          have hl2 : (lv ++ [v]).length < 100000 := by rw [List.length_append]; simp only [List.length_cons, List.length_nil]; omega
          refine ⟨IL, _, v', rfl, rfl, m1, lzl hl2, ?_⟩
          obtain ⟨n1, n2, tw2, rem2, n3, _⟩ := m2 _ rfl
          exact ⟨_, _, _, rfl, n1, n2, _, tw2, _, rem2, n3⟩
        · exact ⟨_, _, _, rfl, hB011, bx11, _, _, _, _, { st11 with r8 := by have := st11.r8; omega, tw8 := by have := st11.tw8; omega, ts8 := by have := st11.ts8; omega }⟩
    · obtain ⟨y4, y5, y6, rfl, hBc, bxc, lv, tw, ts, rem, st⟩ := hP
      refine ⟨_, rfl, IL, lv, rfl, .inl ⟨.inl (.inl st.il), fun p hp => ?_⟩⟩
      generalize hE : upd _ p _ = H6
      obtain ⟨s6, e6⟩ := mk hE hp
      exact q _ _ tw (hBc.trans (But.of s6)) (bxc.same s6) (.at e6 (st.lv.mono (tk s6))) st.ok
end K27

set_option maxHeartbeats 8000000
namespace K27
open PySem PySem.Spec PyProof.Rows L2
variable {P : Program} {w : World} {K : PySem.W.Frag} {mg : Str → Option Value} {base : Heap}
theorem tm_ty {H : Hp} {v : V} {t : Tm} (h : Td K H v t.data) : ∃ ty : String, TyX K H v (.type ty) ∧ PySem.W.kitOne K (.type ty) (.type "tuple") = some (isT t) := by
  have tup : ∀ {l : List PyData}, Td K H v (.tuple l) → TyX K H v (.type "tuple") := fun {l} h => by
    obtain ⟨a, xs, rfl, h | ⟨o, its, n, hk, hc, _⟩, _⟩ := h.inv
    · exact .base (.tup h)
    · exact .kTuple hk hc
  cases t with
  | num i =>
    cases (show v = .int i from Td.intI h)
    exact ⟨"int", .base (.int i), kit_ty (show kitB "int" "tuple" = some false by decide +kernel)⟩
  | nm x =>
    cases (show v = .str x from Td.strI h)
    exact ⟨"str", .base (.str x), kit_ty (show kitB "str" "tuple" = some false by decide +kernel)⟩
  | name x => exact ⟨"tuple", tup h, kit_ty (show kitB "tuple" "tuple" = some true by decide +kernel)⟩
  | call f a => exact ⟨"tuple", tup (by unfold Tm.data at h; exact h), kit_ty (show kitB "tuple" "tuple" = some true by decide +kernel)⟩
  | use f g a => exact ⟨"tuple", tup (by unfold Tm.data at h; exact h), kit_ty (show kitB "tuple" "tuple" = some true by decide +kernel)⟩
def Tm.word : Tm → Str
  | .call _ _ => "call"
  | .use _ _ _ => "use"
  | _ => "name"
def isNameT : Tm → Bool
  | .name _ => true
  | _ => false
theorem tm_fields {H : Hp} {v : V} {t : Tm} (h : Td K H v t.data) (ht : isT t = true) : ∃ a xs, v = .ref a ∧ Tu K H a xs ∧ xs[0]? = some (.str t.word) ∧ (isNameT t = false → ∃ c cs, atI xs (-1) = some (.ref c) ∧ Tu K H c cs ∧ Tds K H cs ((things t).map Tm.data)) := by
  cases t with
  | num i => cases ht
  | nm x => cases ht
  | name x =>
    obtain ⟨a, v1, v2, rfl, h, h1, h2⟩ := Td.i2 h
    obtain rfl := h1.strI
    exact ⟨a, _, rfl, h, rfl, fun h => nomatch h⟩
  | call f a =>
    unfold Tm.data at h
    rw [dataL_map] at h
    obtain ⟨b, v1, v2, v3, rfl, h, h1, h2, h3⟩ := Td.i3 h
    obtain rfl := h1.strI
    obtain ⟨c, cs, rfl, hc, tc⟩ := h3.inv
    exact ⟨b, _, rfl, h, rfl, fun _ => ⟨c, cs, rfl, hc, tc⟩⟩
  | use f g a =>
    unfold Tm.data at h
    rw [dataL_map] at h
    obtain ⟨b, v1, v2, v3, v4, rfl, h, h1, h2, h3, h4⟩ := Td.i4 h
    obtain rfl := h1.strI
    obtain ⟨c, cs, rfl, hc, tc⟩ := h4.inv
    exact ⟨b, _, rfl, h, rfl, fun _ => ⟨c, cs, rfl, hc, tc⟩⟩
theorem word_name {t : Tm} (ht : isT t = true) : decide (t.word = "name") = isNameT t := by
  cases t <;> first | rfl | cases ht
theorem psize_things {t : Tm} (h : isT t = true) : psize t = 1 + psizeL (things t) := by
  cases t <;> first | (simp only [psize, things, psizeL]; done) | cases h
theorem dep_things {t : Tm} (h : isT t = true) : t.dep = 1 + depL (things t) := by
  cases t <;> first | (simp only [Tm.dep, things, depL]; done) | cases h
theorem depL_mem {t : Tm} : ∀ {l : List Tm}, t ∈ l → t.dep ≤ depL l
  | x :: l, h => by
    simp only [depL]
    rcases List.mem_cons.mp h with rfl | h
    · omega
    · have := depL_mem h
      omega
theorem psizeL_mem {t : Tm} (ht : isT t = true) : ∀ {l : List Tm}, t ∈ l → psize t ≤ psizeL l
  | x :: l, h => by
    simp only [psizeL]
    rcases List.mem_cons.mp h with rfl | h
    · rw [if_pos ht]
      omega
    · have := psizeL_mem ht h
      omega
theorem isT_dep {t : Tm} (h : isT t = true) : 1 ≤ t.dep := by
  rw [dep_things h]
  omega
def sz (t : Tm) : Nat := if isT t = true then psize t else 0
theorem psizeL_snoc (l : List Tm) (t : Tm) : psizeL (l ++ [t]) = psizeL l + sz t := by
  rw [psizeL_app]
  simp only [psizeL, sz]
  omega
theorem psizeL_take (l : List Tm) (i : Nat) : psizeL (l.take i) ≤ psizeL l := by
  have : psizeL l = psizeL (l.take i) + psizeL (l.drop i) := by rw [← psizeL_app, List.take_append_drop]
  omega
/-! ### parts -/
def spParts (K : PySem.W.Frag) (n : Nat) : Sp := fun vs H Q _ => ∃ (v : V) (t : Tm), vs = [v] ∧ Td K H v t.data ∧ isT t = true ∧ t.dep ≤ n ∧ psize t ≤ 1000 ∧
  ∀ p H' xs, Same H H' → H p = none → H' p = some (.lst xs) → xs.length = psize t → Q (.ref p) H'
abbrev N_Lparts : List Str := ["_law_term", "_law_found", "_law_thing"]
theorem sc_Lparts : FnScope N_Lparts ["_law_term"] (defScope s_Lparts) := ⟨rfl, rfl, rfl, by decide +kernel, rfl, by decide +kernel, by decide +kernel⟩
theorem parts_step (T : TX K mg) (n : Nat) (IH : Ok P w K mg base CX0 (1 + n) "_law_parts" ["_law_term"] (spParts K n)) : Ok P w K mg base CX0 (1 + n + 1) "_law_parts" ["_law_term"] (spParts K (n + 1)) := by
  refine Ok.mk' T T.m_Lparts T.f_Lparts sc_Lparts (fun vs H Q E h => ?_) (fun _ _ _ _ _ _ us hl => match us, hl with | [_], _ => rfl) (fun cdv A outer s H vs Q E hr h => ?_)
  · obtain ⟨v, t, rfl, _⟩ := h
    rfl
  · obtain ⟨v, t, rfl, dt, ht, hd, hp, q⟩ := h
    refine ⟨_, (pss_cons (ps_set (i := 1) sc_Lparts.nd rfl (Or.inl rfl) (pe_lst (pa_cons (pv 0) pa_nil)))
      (pss_cons (ps_for PassesOwn.never rfl (pi_tup (pe_ifExp (pt_cmpR op_ne (pe_ix ix_tup (pv 0) pe_int (fun _ _ => rfl)) pe_str (nomark _)) (pe_ix ix_tup (pv 0) (pe_un un_neg pe_int) (fun _ _ => rfl)) (pe_tup pa_nil))) (pg_name (i := 2) sc_Lparts.nd rfl (.inl rfl))
        (pss_one (ps_if (pt_val (pe_callB call_isi (by rfl) T.n_isinstance (by decide +kernel) (pa_cons (pv 2) (pa_cons (pe_bltn (v := .ty "tuple") (by rfl) T.n_tuple (by decide +kernel) rfl) pa_nil))))
          (pss_one (ps_expr (pe_bm PySem.F.plainAttrs_list PySem.F.slot_list_extend PySem.F.type_list_extend mt_extend (pv 1) (pa_cons (pe_ok IH hr (Nat.le_refl _) (by rfl) (pa_cons (pv 2) pa_nil) pass0) pa_nil))))
          pss_nil)))
      (pss_one (ps_ret (pv 1))))), ?_⟩
    obtain ⟨a, xs, rfl, hT, hw, hrest⟩ := tm_fields dt ht
    have hps := psize_things ht
    have hdp := dep_things ht
    refine ⟨_, rfl, lz 1, fun F nF => ?_⟩
    generalize hE : upd _ F _ = H1
    obtain ⟨s1, e1⟩ := mk hE nF
    cases hN : isNameT t with
    | true =>
      have hth : things t = [] := by cases t <;> first | rfl | cases hN
      have hp1 : psize t = 1 := by rw [hps, hth]; simp [psizeL]
      refine ⟨_, rfl, a, xs, _, _, rfl, rfl, (hT.mono (tk s1)).sq, at_of (j := 0) rfl hw, rfl, _, rfl, ?_⟩
      rw [decV, word_name ht, hN]
      refine ⟨lz 0, fun p2 h2 => ?_⟩
      generalize hE : upd _ p2 _ = H2
      obtain ⟨s2, e2⟩ := mk hE h2
      refine ⟨p2, rfl, ⟨[], .inl (.inl e2)⟩, for_it (walk_tup (K := K) (a := p2) (xs := [])) (fun _ σ H' => σ = [some (.ref a), some (.ref F), none] ∧ H' = H2) ⟨rfl, rfl⟩ (fun _ σ H' _ hP => by rw [hP.2]; exact .inl (.inl e2)) (fun i _ _ _ _ hi => absurd hi (Nat.not_lt_zero _)) (fun σ H' hP => ?_)⟩
      obtain ⟨rfl, rfl⟩ := hP
      exact ⟨_, rfl, q F _ _ (s1.trans s2) nF (s2 _ _ e1) (by rw [hp1]; rfl)⟩
    | false =>
      obtain ⟨c, cs, hc, hcu, tc⟩ := hrest hN
      have hcl : cs.length = (things t).length := by rw [tc.len, List.length_map]
      refine ⟨_, rfl, a, xs, _, _, rfl, rfl, (hT.mono (tk s1)).sq, at_of (j := 0) rfl hw, rfl, _, rfl, ?_⟩
      rw [decV, word_name ht, hN]
      refine ⟨_, rfl, _, rfl, a, xs, _, _, rfl, rfl, (hT.mono (tk s1)).sq, hc, c, rfl, ⟨_, (hcu.mono (tk s1)).sq⟩, for_it (walk_tup (K := K) (a := c) (xs := cs)) (fun i σ H' => ∃ y2, σ = [some (.ref a), some (.ref F), y2] ∧ Same H H' ∧ ∃ fv, H' F = some (.lst fv) ∧ fv.length = 1 + psizeL ((things t).take i))
        ⟨none, rfl, s1, _, e1, rfl⟩ (fun _ σ H' _ hP => ?_) (fun i x σ Hc Hd hi hP hY => ?_) (fun σ Hc hP => ?_)⟩
      · obtain ⟨_, _, sm, _⟩ := hP
        exact (hcu.mono (tk sm)).sq
      · obtain ⟨y2, rfl, sm, fv, eF, lf⟩ := hP
        obtain ⟨rfl, hx⟩ := hY
        obtain ⟨dd, hdd, dx⟩ := (tc.mono (tk sm)).getV hx
        obtain ⟨u, hu, rfl⟩ := map_at hdd
        obtain ⟨ty, hty, hk⟩ := tm_ty dx
        have hum := List.mem_of_getElem? hu
        have hsz := psizeL_take (things t) (i + 1)
        rw [take_succ' hu, psizeL_snoc] at hsz
        refine ⟨_, rfl, _, .ty "tuple", _, _, _, rfl, .ty "tuple", hty, hk, _, rfl, ?_⟩
        cases hut : isT u with
        | true =>
          refine ⟨_, rfl, .inl ⟨rfl, _, .inl (.inl eF)⟩, _, rfl, x, u, rfl, dx, hut, ?_, ?_, fun p3 H3 xs3 s3 n3 e3 l3 => ?_⟩
          · have := depL_mem hum
            omega
          · have := psizeL_mem hut hum
            omega
          · have hsu : sz u = psize u := by unfold sz; rw [if_pos hut]
            have eF3 := s3 _ _ eF
            refine ⟨F, p3, fv, xs3, rfl, rfl, eF3, e3, lz _ (by omega), _, rfl, smut (sm.trans s3) nF, _, upd_same, ?_⟩
            rw [List.length_append, lf, l3, take_succ' hu, psizeL_snoc]
            omega
        | false =>
          have hsu : sz u = 0 := by unfold sz; rw [hut]; rfl
          refine ⟨_, rfl, sm, fv, eF, ?_⟩
          rw [lf, take_succ' hu, psizeL_snoc]
          omega
      · obtain ⟨y2, rfl, sm, fv, eF, lf⟩ := hP
        rw [show (things t).take cs.length = things t from List.take_of_length_le (by omega)] at lf
        exact ⟨_, rfl, q F Hc fv sm nF eF (by rw [lf, hps])⟩
theorem ok_Lparts (T : TX K mg) : ∀ n, Ok P w K mg base CX0 (1 + n) "_law_parts" ["_law_term"] (spParts K n)
  | 0 => by
    obtain ⟨fd, F⟩ := T.f_Lparts
    have no : ∀ vs H Q E, spParts K 0 vs H Q E → False := fun vs H Q E h => by
      obtain ⟨v, t, _, _, ht, hd, _⟩ := h
      have := isT_dep ht
      omega
    exact ⟨T.m_Lparts, F.kp, fd, ⟨fun vs H Q E h => (no vs H Q E h).elim, fun A outer s H args us vs Q E hr he hb hv hs => (no vs H Q E hs).elim⟩, F.bindsN fun _ _ _ _ _ _ us hl => match us, hl with | [_], _ => rfl⟩
  | n + 1 => parts_step T n (ok_Lparts T n)
end K27

set_option maxHeartbeats 8000000
namespace K27
open PySem PySem.Spec PyProof.Rows L2
variable {P : Program} {w : World} {K : PySem.W.Frag} {mg : Str → Option Value} {base : Heap}
def putZ : List Tm → Int → Tm → List Tm
  | [], _, _ => []
  | t :: r, l, o => (if 0 ≤ l ∧ l < (sz t : Int) then put t l.toNat o else t) :: putZ r (l - sz t) o
theorem putZ_neg : ∀ {ths : List Tm} {l : Int} {o : Tm}, l < 0 → putZ ths l o = ths
  | [], _, _, _ => rfl
  | t :: r, l, o, h => by
    unfold putZ
    rw [if_neg (by omega), putZ_neg (by omega)]
theorem putZ_L : ∀ (ths : List Tm) (p : Nat) (o : Tm), putZ ths p o = putL ths p o
  | [], p, o => by simp only [putZ, putL]
  | t :: r, p, o => by
    unfold putZ putL
    by_cases h : isT t = true ∧ p < psize t
    · have hs : sz t = psize t := by unfold sz; rw [if_pos h.1]
      rw [if_pos ⟨by omega, by rw [hs]; omega⟩, if_pos h, putZ_neg (by rw [hs]; omega)]
      rfl
    · rw [if_neg h]
      by_cases ht : isT t = true
      · have hs : sz t = psize t := by unfold sz; rw [if_pos ht]
        have hp : psize t ≤ p := by
          have : ¬ p < psize t := fun z => h ⟨ht, z⟩
          omega
        rw [if_neg (by rw [hs]; omega), if_pos ht]
        have e : (p : Int) - (sz t : Int) = ((p - psize t : Nat) : Int) := by rw [hs]; omega
        rw [e, putZ_L r]
      · have hs : sz t = 0 := by unfold sz; rw [if_neg ht]
        rw [if_neg (by rw [hs]; omega), if_neg ht]
        have e : (p : Int) - (sz t : Int) = ((p - 0 : Nat) : Int) := by rw [hs]; omega
        rw [e, putZ_L r]
theorem putZ_len : ∀ (ths : List Tm) (l : Int) (o : Tm), (putZ ths l o).length = ths.length
  | [], _, _ => rfl
  | t :: r, l, o => by
    unfold putZ
    rw [List.length_cons, List.length_cons, putZ_len r]
theorem putZ_get : ∀ {ths : List Tm} {l : Int} {o : Tm} {i : Nat} {t : Tm}, ths[i]? = some t → (putZ ths l o)[i]? = some (if 0 ≤ l - psizeL (ths.take i) ∧ l - psizeL (ths.take i) < (sz t : Int) then put t (l - psizeL (ths.take i)).toNat o else t)
  | [], _, _, _, _, h => by simp at h
  | t :: r, l, o, 0, u, h => by
    have e : t = u := Option.some.inj h
    subst e
    unfold putZ
    have e0 : (l - ((psizeL ((t :: r).take 0) : Nat) : Int)) = l := by
      show l - ((psizeL [] : Nat) : Int) = l
      simp [psizeL]
    rw [e0]
    rfl
  | t :: r, l, o, i + 1, u, h => by
    have ih := putZ_get (ths := r) (l := l - sz t) (o := o) (i := i) (t := u) (by simpa using h)
    have e : l - (sz t : Int) - (psizeL (r.take i) : Int) = l - (psizeL ((t :: r).take (i + 1)) : Int) := by
      have : psizeL ((t :: r).take (i + 1)) = sz t + psizeL (r.take i) := by
        rw [List.take_succ_cons]
        simp only [psizeL, sz]
      rw [this]
      omega
    rw [e] at ih
    unfold putZ
    rw [List.getElem?_cons_succ]
    exact ih
mutual
def Tm.wd : Tm → Nat
  | .call _ a => max a.length (wdL a)
  | .use _ _ a => max a.length (wdL a)
  | _ => 0
def wdL : List Tm → Nat
  | [] => 0
  | t :: r => max t.wd (wdL r)
end
theorem wdL_mem {t : Tm} : ∀ {l : List Tm}, t ∈ l → t.wd ≤ wdL l
  | x :: l, h => by
    simp only [wdL]
    rcases List.mem_cons.mp h with rfl | h
    · omega
    · have := wdL_mem h
      omega
theorem wd_things (t : Tm) : (things t).length ≤ t.wd ∧ wdL (things t) ≤ t.wd := by
  cases t <;> simp only [things, Tm.wd, wdL, List.length_nil] <;> omega
theorem tm_front {H : Hp} {v : V} {t : Tm} (h : Td K H v t.data) (ht : isT t = true) (hn : isNameT t = false) : ∃ a xs c cs ws dws, v = .ref a ∧ Tu K H a xs ∧ atI xs (-1) = some (.ref c) ∧ Tu K H c cs ∧ Tds K H cs ((things t).map Tm.data) ∧
    cutV xs none (some (-1)) = ws ∧ Tds K H ws dws ∧ ws ≠ [] ∧ ws.length ≤ 5 ∧ ¬ (HT.sIx xs.length 0 none = 0 ∧ HT.sIx xs.length xs.length (some (-1)) = xs.length) ∧
    ∀ p o, (put t (p + 1) o).data = .tuple (dws ++ [.tuple (dataL (putL (things t) p o))]) := by
  cases t with
  | num i => cases ht
  | nm x => cases ht
  | name x => cases hn
  | call f a =>
    unfold Tm.data at h
    rw [dataL_map] at h
    obtain ⟨b, v1, v2, v3, rfl, h, h1, h2, h3⟩ := Td.i3 h
    obtain ⟨c, cs, rfl, hc, tc⟩ := h3.inv
    refine ⟨b, _, c, cs, [v1, v2], _, rfl, h, rfl, hc, tc, rfl, .cons h1 (.cons h2 .nil), (fun e => nomatch e), (by show 2 ≤ 5; decide), (fun e => absurd e.2 (by show ¬ (2 : Nat) = 3; decide)), fun p o => ?_⟩
    simp only [put, Tm.data, things]
    rfl
  | use f g a =>
    unfold Tm.data at h
    rw [dataL_map] at h
    obtain ⟨b, v1, v2, v3, v4, rfl, h, h1, h2, h3, h4⟩ := Td.i4 h
    obtain ⟨c, cs, rfl, hc, tc⟩ := h4.inv
    refine ⟨b, _, c, cs, [v1, v2, v3], _, rfl, h, rfl, hc, tc, rfl, .cons h1 (.cons h2 (.cons h3 .nil)), (fun e => nomatch e), (by show 3 ≤ 5; decide), (fun e => absurd e.2 (by show ¬ (3 : Nat) = 4; decide)), fun p o => ?_⟩
    simp only [put, Tm.data, things]
    rfl
def spPut (K : PySem.W.Frag) (n : Nat) : Sp := fun vs H Q _ => ∃ (v vo : V) (t o : Tm) (p : Nat), vs = [v, .int p, vo] ∧ Td K H v t.data ∧ Td K H vo o.data ∧ isT t = true ∧ t.dep ≤ n ∧ psize t ≤ 1000 ∧ t.wd ≤ 1000 ∧ p < psize t ∧
  ∀ r H', Same H H' → Td K H' r (put t p o).data → Q r H'
abbrev N_Lput : List Str := ["_law_term", "_law_p", "_law_other", "_law_found", "_law_left", "_law_thing", "_law_many"]
theorem sc_Lput : FnScope N_Lput ["_law_term", "_law_p", "_law_other"] (defScope s_Lput) := ⟨rfl, rfl, rfl, by decide +kernel, rfl, by decide +kernel, by decide +kernel⟩
abbrev psPut : List Str := ["_law_term", "_law_p", "_law_other"]
theorem put_step (T : TX K mg) (n : Nat) (IH : Ok P w K mg base CX0 (1 + n) "_law_put" psPut (spPut K n)) : Ok P w K mg base CX0 (1 + n + 1) "_law_put" psPut (spPut K (n + 1)) := by
  refine Ok.mk' T T.m_Lput T.f_Lput sc_Lput (fun vs H Q E h => ?_) (fun _ _ _ _ _ _ us hl => match us, hl with | [_, _, _], _ => rfl) (fun cdv A outer s H vs Q E hr h => ?_)
  · obtain ⟨v, vo, t, o, p, rfl, _⟩ := h
    rfl
  · obtain ⟨v, vo, t, o, p, rfl, dt, dO, ht, hd, hp, hwd, hpt, q⟩ := h
    refine ⟨_, (pss_cons (ps_if (pt_cmpR op_eq (pv 1) pe_int (nomark _))
        (pss_one (ps_ret (pv 2)))
        pss_nil)
      (pss_cons (ps_par (i := 3) (j := 4) (by rfl) sc_Lput.nd rfl rfl (by decide) rfl rfl (pa_cons (pe_lst pa_nil) (pa_cons (pe_op op_sub (pv 1) pe_int) pa_nil)) (by rfl))
      (pss_cons (ps_for PassesOwn.never rfl (pi_tup (pe_ix ix_tup (pv 0) (pe_un un_neg pe_int) (fun _ _ => rfl))) (pg_name (i := 5) sc_Lput.nd rfl (.inl rfl))
        (Evl.pss_cut (ps_set (i := 6) sc_Lput.nd rfl (Or.inl rfl) (pe_ifExp (pt_val (pe_callB call_isi (by rfl) T.n_isinstance (by decide +kernel) (pa_cons (pv 5) (pa_cons (pe_bltn (v := .ty "tuple") (by rfl) T.n_tuple (by decide +kernel) rfl) pa_nil)))) (pe_callB call_len_seq (by rfl) T.n_len PySem.boot_len (pa_cons (pe_ok (ok_Lparts T n) hr (Nat.le_refl _) (by rfl) (pa_cons (pv 5) pa_nil) pass0) pa_nil)) pe_int))
        (pss_cons (ps_expr (pe_bm PySem.F.plainAttrs_list PySem.F.slot_list_append PySem.F.type_list_append mt_append (pv 3) (pa_cons (pe_ifExp (pt_chain op_le op_lt pe_int (pv 4) (pv 6)) (pe_ok IH hr (Nat.le_refl _) (by rfl) (pa_cons (pv 5) (pa_cons (pv 4) (pa_cons (pv 2) pa_nil))) pass0) (pv 5)) pa_nil)))
        (pss_one (ps_set (i := 4) sc_Lput.nd rfl (Or.inl rfl) (pe_op op_sub (pv 4) (pv 6)))))))
      (pss_one (ps_ret (pe_op (op_catU (K := K)) (pe_slice sl_tupA (pv 0) po_none (po_some (pe_un un_neg pe_int))) (pe_tup (pa_cons (pe_callTy call_tuple_of (by rfl) T.n_tuple (by decide +kernel) (pa_cons (pv 3) pa_nil)) pa_nil)))))))), ?_⟩
    refine ⟨_, rfl, rfl, _, rfl, ite2 (fun h0 => ?_) (fun h0 => ?_)⟩
    · have e : p = 0 := by
        have := V.int.inj (of_decide_eq_true h0)
        omega
      subst e
      have e0 : put t 0 o = o := by cases t <;> simp only [put]
      refine ⟨_, rfl, q vo H (Same.refl H) (by rw [e0]; exact dO)⟩
    · obtain ⟨p, rfl⟩ : ∃ p', p = p' + 1 := ⟨p - 1, by
        have : p ≠ 0 := fun e => h0 (by rw [e]; exact decide_eq_true rfl)
        omega⟩
      have hps := psize_things ht
      have hdp := dep_things ht
      have hN : isNameT t = false := by
        cases t with
        | name x => simp only [psize] at hpt; omega
        | _ => rfl
      obtain ⟨a, xs, c, cs, ws, dws, rfl, hT, hc, hcu, tc, hws, tws, hne, hwl, hwhole, hdat⟩ := tm_front dt ht hN
      have hcl : cs.length = (things t).length := by rw [tc.len, List.length_map]
      refine ⟨lz 0, fun F nF => ?_⟩
      generalize hE : upd _ F _ = H1
      obtain ⟨s1, e1⟩ := mk hE nF
      refine ⟨_, rfl, _, _, rfl, rfl, _, _, rfl, ?_⟩
      refine ⟨_, rfl, _, rfl, a, xs, _, _, rfl, rfl, (hT.mono (tk s1)).sq, hc, c, rfl, ⟨_, (hcu.mono (tk s1)).sq⟩, for_it (walk_tup (K := K) (a := c) (xs := cs)) (fun i σ H' => ∃ y5 y6, σ = [some (.ref a), some (.int ((p + 1 : Nat) : Int)), some vo, some (.ref F), some (.int ((p : Int) - psizeL ((things t).take i))), y5, y6] ∧ Same H H' ∧ ∃ fv, H' F = some (.lst fv) ∧ Tds K H' fv (((putZ (things t) p o).take i).map Tm.data))
        ⟨none, none, ?_, s1, _, e1, .nil⟩ (fun _ σ H' _ hP => ?_) (fun i x σ Hc Hd hi hP hY => ?_) (fun σ Hc hP => ?_)⟩
      · have e : (((p + 1 : Nat) : Int) - 1) = (p : Int) - psizeL ((things t).take 0) := by
          show _ = (p : Int) - ((psizeL [] : Nat) : Int)
          simp only [psizeL]
          omega
        rw [← e]
        rfl
      · obtain ⟨_, _, _, sm, _⟩ := hP
        exact (hcu.mono (tk sm)).sq
      · obtain ⟨y5, y6, rfl, sm, fv, eF, tF⟩ := hP
        obtain ⟨rfl, hx⟩ := hY
        obtain ⟨dd, hdd, dx⟩ := (tc.mono (tk sm)).getV hx
        obtain ⟨u, hu, rfl⟩ := map_at hdd
        obtain ⟨ty, hty, hk⟩ := tm_ty dx
        have hum := List.mem_of_getElem? hu
        have hfl : fv.length ≤ i := by
          rw [tF.len, List.length_map, List.length_take]
          exact Nat.min_le_left _ _
        have hw2 := wd_things t
        have hil := (List.getElem?_eq_some_iff.mp hu).1
        have hget := putZ_get (l := (p : Int)) (o := o) hu
        generalize hz : (if 0 ≤ (p : Int) - psizeL ((things t).take i) ∧ (p : Int) - psizeL ((things t).take i) < (sz u : Int) then put u ((p : Int) - psizeL ((things t).take i)).toNat o else u) = z at hget
        have hsum : (psizeL ((things t).take (i + 1)) : Int) = psizeL ((things t).take i) + sz u := by
          rw [take_succ' hu, psizeL_snoc]
          omega
        have hsz : sz u ≤ 1000 := by
          unfold sz
          split
          · rename_i hh
            have := psizeL_mem hh hum
            omega
          · omega
        refine ⟨fun σ H' => σ = [some (V.ref a), some (.int ((p + 1 : Nat) : Int)), some vo, some (.ref F), some (.int ((p : Int) - psizeL ((things t).take i))), some x, some (.int (sz u : Int))] ∧ Same Hd H', ?_, ?_⟩
        · refine ⟨_, rfl, _, .ty "tuple", _, _, _, rfl, .ty "tuple", hty, hk, _, rfl, ?_⟩
          cases hut : isT u with
          | true =>
            refine ⟨_, rfl, x, u, rfl, dx, hut, ?_, ?_, fun p3 H3 xs3 s3 n3 e3 l3 => ⟨p3, xs3, rfl, .inl (.inl (.inl e3)), ?_⟩⟩
            · have := depL_mem hum
              omega
            · have := psizeL_mem hut hum
              omega
            · have hsu : sz u = psize u := by unfold sz; rw [if_pos hut]
              rw [l3, ← hsu]
              exact ⟨rfl, s3⟩
          | false =>
            have hsu : sz u = 0 := by unfold sz; rw [hut]; rfl
            rw [hsu]
            exact ⟨rfl, Same.refl _⟩
        rintro σ' H3 ⟨rfl, s3⟩
        have eF3 := s3 _ _ eF
        have fin : ∀ (zv : V) (H4 : Hp), Same H3 H4 → Td K H4 zv z.data → H4 F = some (.lst fv) ∧ ∀ H5, H5 = upd H4 F (.lst (fv ++ [zv])) → Same H H5 ∧ H5 F = some (.lst (fv ++ [zv])) ∧ Tds K H5 (fv ++ [zv]) (((putZ (things t) p o).take (i + 1)).map Tm.data) := by
          intro zv H4 s4 dz
          have eF4 := (s3.trans s4) _ _ eF
          refine ⟨eF4, fun H5 e5 => ⟨?_, ?_, ?_⟩⟩
          · rw [e5]; exact smut (sm.trans (s3.trans s4)) nF
          · rw [e5]; exact upd_same
          · rw [e5, take_succ' hget, List.map_append]
            exact Tds.mono (TupK.put (TupK.refl _) eF4 rfl) ((tF.mono (tk (s3.trans s4))).snoc dz)
        have hend : (p : Int) - psizeL ((things t).take i) - (sz u : Int) = (p : Int) - psizeL ((things t).take (i + 1)) := by rw [hsum]; omega
        refine ⟨_, rfl, .inl ⟨rfl, _, .inl (.inl eF3)⟩, _, rfl, _, _, rfl, rfl, _, rfl, ?_⟩
        by_cases h1 : 0 ≤ (p : Int) - psizeL ((things t).take i)
        · rw [decide_eq_true h1]
          refine ⟨_, rfl, _, _, rfl, rfl, _, rfl, ?_⟩
          by_cases h2 : (p : Int) - psizeL ((things t).take i) < (sz u : Int)
          · rw [decide_eq_true h2]
            rw [if_pos ⟨h1, h2⟩] at hz
            have hut : isT u = true := by
              cases hb : isT u with
              | true => rfl
              | false =>
                unfold sz at h2
                rw [hb] at h2
                simp at h2
                omega
            have hsu : sz u = psize u := by unfold sz; rw [if_pos hut]
            obtain ⟨m, hm⟩ : ∃ m : Nat, (p : Int) - psizeL ((things t).take i) = (m : Int) := ⟨((p : Int) - psizeL ((things t).take i)).toNat, by omega⟩
            refine ⟨_, rfl, _, rfl, _, rfl, x, vo, u, o, m, by rw [hm]; rfl, dx.mono (tk s3), dO.mono (tk (sm.trans s3)), hut, ?_, by rw [← hsu]; exact hsz, ?_, by rw [← hsu]; omega, fun r H4 s4 dr => ?_⟩
            · have := depL_mem hum
              omega
            · have := wdL_mem hum
              omega
            · obtain ⟨g1, g2⟩ := fin r H4 s4 (by rw [← hz, hm]; exact dr)
              refine ⟨F, fv, r, rfl, rfl, g1, lzl (by omega), _, rfl, _, rfl, _, _, rfl, rfl, some x, some (.int (sz u : Int)), ?_, (g2 _ rfl).1, _, (g2 _ rfl).2⟩
              rw [← hend]
              rfl
          · rw [decide_eq_false h2]
            rw [if_neg fun hh => h2 hh.2] at hz
            obtain ⟨g1, g2⟩ := fin x H3 (Same.refl _) (by rw [← hz]; exact dx.mono (tk s3))
            refine ⟨_, rfl, F, fv, x, rfl, rfl, g1, lzl (by omega), _, rfl, _, rfl, _, _, rfl, rfl, some x, some (.int (sz u : Int)), ?_, (g2 _ rfl).1, _, (g2 _ rfl).2⟩
            rw [← hend]
            rfl
        · rw [decide_eq_false h1]
          rw [if_neg fun hh => h1 hh.1] at hz
          obtain ⟨g1, g2⟩ := fin x H3 (Same.refl _) (by rw [← hz]; exact dx.mono (tk s3))
          refine ⟨_, rfl, _, rfl, F, fv, x, rfl, rfl, g1, lzl (by omega), _, rfl, _, rfl, _, _, rfl, rfl, some x, some (.int (sz u : Int)), ?_, (g2 _ rfl).1, _, (g2 _ rfl).2⟩
          rw [← hend]
          rfl
      · obtain ⟨y5, y6, rfl, sm, fv, eF, tF⟩ := hP
        rw [show (putZ (things t) p o).take cs.length = putZ (things t) p o from List.take_of_length_le (by rw [putZ_len]; omega), putZ_L] at tF
        have hput : (putL (things t) p o).map Tm.data = dataL (putL (things t) p o) := (dataL_map _).symm
        rw [hput] at tF
        refine ⟨_, rfl, _, rfl, _, rfl, a, xs, rfl, (hT.mono (tk sm)).sq, fun hh => absurd hh hwhole, fun _ p2 h2 => ?_⟩
        generalize hE : upd _ p2 _ = H2
        obtain ⟨s2, e2⟩ := mk hE h2
        have e2' : H2 p2 = some (.tup ws) := by rw [e2, ← hws]
        refine ⟨_, rfl, F, fv, rfl, .inl ⟨.inl (.inl (s2 _ _ eF)), fun p3 h3 => ?_⟩⟩
        generalize hE : upd _ p3 _ = H3
        obtain ⟨s3, e3⟩ := mk hE h3
        refine ⟨lz 1, fun p4 h4 => ?_⟩
        generalize hE : upd _ p4 _ = H4
        obtain ⟨s4, e4⟩ := mk hE h4
        refine ⟨p2, p4, ws, _, rfl, rfl, .inl ((s3.trans s4) _ _ e2'), .inl e4, by show ws.length + 1 ≤ 100000; omega, fun pr H5 s5 hpr => ?_⟩
        have s25 := s2.trans (s3.trans (s4.trans s5))
        refine q _ _ (sm.trans s25) ?_
        rw [hdat]
        exact .tup hpr ((tws.mono (tk (sm.trans s25))).append (.cons (.at ((s4.trans s5) _ _ e3) (tF.mono (tk s25))) .nil))
theorem ok_Lput (T : TX K mg) : ∀ n, Ok P w K mg base CX0 (1 + n) "_law_put" psPut (spPut K n)
  | 0 => by
    obtain ⟨fd, F⟩ := T.f_Lput
    have no : ∀ vs H Q E, spPut K 0 vs H Q E → False := fun vs H Q E h => by
      obtain ⟨v, vo, t, o, p, _, _, _, ht, hd, _⟩ := h
      have := isT_dep ht
      omega
    exact ⟨T.m_Lput, F.kp, fd, ⟨fun vs H Q E h => (no vs H Q E h).elim, fun A outer s H args us vs Q E hr he hb hv hs => (no vs H Q E hs).elim⟩, F.bindsN fun _ _ _ _ _ _ us hl => match us, hl with | [_, _, _], _ => rfl⟩
  | n + 1 => put_step T n (ok_Lput T n)
end K27

set_option maxHeartbeats 8000000
namespace K27
open PySem PySem.Spec PyProof.Rows L2
/-! ### items and their names, the signs left out -/
def okFrom (ks : List Str) : Nat → List Item → Prop
  | _, [] => True
  | n, it :: r => itemOk ks n it ∧ okFrom ks (n + if isName it = true then 1 else 0) r
theorem okFrom_of {ks : List Str} : ∀ {l : List Item} {n : Nat}, (∀ i it, l[i]? = some it → itemOk ks (n + nNames (l.take i)) it) → okFrom ks n l
  | [], _, _ => trivial
  | it :: r, n, h => by
    refine ⟨?_, okFrom_of fun i jt hi => ?_⟩
    · have := h 0 it rfl
      exact this
    · have h2 := h (i + 1) jt (by simpa using hi)
      have e : nNames ((it :: r).take (i + 1)) = (if isName it = true then 1 else 0) + nNames (r.take i) := by
        rw [List.take_succ_cons]
        unfold nNames
        rw [List.filter_cons]
        cases hN : isName it
        · simp
        · simp [Nat.add_comm]
      rw [e, ← Nat.add_assoc] at h2
      exact h2
theorem okFrom_filter {ks : List Str} : ∀ {l : List Item} {n : Nat}, okFrom ks n l → okFrom ks n (l.filter notSign)
  | [], _, _ => trivial
  | it :: r, n, h => by
    have ih := okFrom_filter h.2
    cases it with
    | sign s => exact ih
    | lit => exact ⟨h.1, ih⟩
    | name k => exact ⟨h.1, ih⟩
    | term k os => exact ⟨h.1, ih⟩
theorem okFrom_at {ks : List Str} : ∀ {l : List Item} {n : Nat}, okFrom ks n l → ∀ i it, l[i]? = some it → itemOk ks (n + nNames (l.take i)) it
  | [], _, _, i, it, h => by simp at h
  | jt :: r, n, h, 0, it, e => by
    cases (show some jt = some it from e)
    exact h.1
  | jt :: r, n, h, i + 1, it, e => by
    have := okFrom_at h.2 i it (by simpa using e)
    have e2 : nNames ((jt :: r).take (i + 1)) = (if isName jt = true then 1 else 0) + nNames (r.take i) := by
      rw [List.take_succ_cons]
      unfold nNames
      rw [List.filter_cons]
      cases hN : isName jt
      · simp
      · simp [Nat.add_comm]
    rw [e2, ← Nat.add_assoc]
    exact this
theorem dues_ok {ks : List Str} {f : Form} (h : itemsOk ks f.items) : ∀ i it, f.dues[i]? = some it → itemOk ks (nNames (f.dues.take i)) it := by
  have h1 : okFrom ks 0 f.items := okFrom_of fun i it e => by rw [Nat.zero_add]; exact h i it e
  intro i it e
  have := okFrom_at (okFrom_filter h1) i it e
  rw [Nat.zero_add] at this
  exact this
theorem binds_names : ∀ {l : List Item} {m : List Tm}, l.length = m.length → (l.zip m).all fits = true → (binds (l.zip m)).length = nNames l
  | [], [], _, _ => rfl
  | [], _ :: _, h, _ => by cases h
  | _ :: _, [], h, _ => by cases h
  | it :: l, t :: m, h, hf => by
    rw [List.zip_cons_cons, List.all_cons, Bool.and_eq_true] at hf
    have ih := binds_names (l := l) (m := m) (by simpa using h) hf.2
    rw [List.zip_cons_cons]
    unfold binds nNames at *
    rw [List.filterMap_cons, List.filter_cons]
    cases it with
    | sign s => cases t <;> first | exact ih | cases hf.1
    | lit => cases t <;> first | exact ih | cases hf.1
    | term k os => cases t <;> first | exact ih | cases hf.1
    | name k =>
      cases t with
      | nm x => simp only [bindOf, isName, if_true, List.length_cons, ih]
      | _ => cases hf.1
/-! ### the parts right in a term, as they are met -/
theorem inner_call {L : Lang} {f : Str} {args : List Tm} {p : Str × List Str × Str} {r : Sg} {d : Str} (h : L.head f = some p) : inner L (.call f args, r, d) = (p.2.1.zip args).map fun q => (q.2, r, q.1) := by
  have hs : slots L (.call f args) = p.2.1.map fun k => .term k [] := by unfold slots; simp only [h]
  have hz : both L (.call f args) = (p.2.1.zip args).map fun q => (Item.term q.1 [], q.2) := by
    unfold both
    rw [hs]
    show (p.2.1.map fun k => Item.term k []).zip args = _
    rw [List.zip_map_left]
    rfl
  have hb : binds (both L (.call f args)) = [] := by
    unfold binds
    rw [hz, List.filterMap_map]
    exact List.filterMap_eq_nil_iff.mpr fun q hq => rfl
  unfold inner
  simp only [hb]
  rw [hz, List.filterMap_map]
  have e : (entryOf r [] ∘ fun q : Str × Tm => (Item.term q.1 [], q.2)) = fun q => some (q.2, r, q.1) := rfl
  rw [e]
  exact congrFun (List.filterMap_eq_map (f := fun q : Str × Tm => ((q.2, r, q.1) : Entry))) _
variable {P : Program} {w : World} {K : PySem.W.Frag} {mg : Str → Option Value} {base : Heap}
/-- a tuple of a term, a dict of names, a kind -/
def Ent (K : PySem.W.Frag) (H : Hp) (v : V) (x : Entry) : Prop := ∃ a tv d kvs, v = .ref a ∧ H a = some (.tup [tv, .ref d, .str x.2.2]) ∧ Td K H tv x.1.data ∧ H d = some (.dK kvs) ∧ KvE kvs x.2.1 ∧ kvs.length + 2 * x.1.dep ≤ 200
theorem Ent.same {H H' : Hp} {v : V} {x : Entry} (h : Ent K H v x) (s : Same H H') : Ent K H' v x := by
  obtain ⟨a, tv, d, kvs, e, h1, h2, h3, h4, h5⟩ := h
  exact ⟨a, tv, d, kvs, e, s _ _ h1, h2.mono (tk s), s _ _ h3, h4, h5⟩
abbrev Ents (K : PySem.W.Frag) (H : Hp) : List V → List Entry → Prop := Paired (Ent K H)
theorem Ents.same {H H' : Hp} {vs : List V} {xs : List Entry} (h : Ents K H vs xs) (s : Same H H') : Ents K H' vs xs := Paired.mapP h fun _ _ e => e.same s
theorem Ents.app {H : Hp} : ∀ {vs ws : List V} {xs ys : List Entry}, Ents K H vs xs → Ents K H ws ys → Ents K H (vs ++ ws) (xs ++ ys)
  | _, _, _, _, .nil, h => h
  | _, _, _, _, .cons a b, h => .cons a (Ents.app b h)
theorem Ents.rev {H : Hp} : ∀ {vs : List V} {xs : List Entry}, Ents K H vs xs → Ents K H vs.reverse xs.reverse
  | _, _, .nil => .nil
  | _, _, .cons a b => by
    rw [List.reverse_cons, List.reverse_cons]
    exact (Ents.rev b).app (.cons a .nil)
/-- what a law looks terms over by -/
structure Rul (K : PySem.W.Frag) (H : Hp) (rv : V) (T : Tongue) (hs : List Hd) : Prop where
  ex : ∃ ra tv hl hv, rv = .ref ra ∧ Tu K H ra [tv, .ref hl] ∧ Td K H tv T.data ∧ H hl = some (.lst hv) ∧ Tds K H hv (hs.map headD)
  ok : TongOk T
  hok : HdsOk T hs
theorem Rul.same {H H' : Hp} {rv : V} {T : Tongue} {hs : List Hd} (h : Rul K H rv T hs) (s : Same H H') : Rul K H' rv T hs := by
  obtain ⟨ra, tv, hl, hv, e, h1, h2, h3, h4⟩ := h.ex
  exact ⟨⟨ra, tv, hl, hv, e, h1.mono (tk s), h2.mono (tk s), s _ _ h3, h4.mono (tk s)⟩, h.ok, h.hok⟩
def spInner (K : PySem.W.Frag) : Sp := fun vs H Q _ => ∃ (rv tv : V) (d : Addr) (kvs : List (Key × V)) (T : Tongue) (hs : List Hd) (t : Tm) (r : Sg) (k : Str), vs = [rv, tv, .ref d] ∧ Rul K H rv T hs ∧ Td K H tv t.data ∧ H d = some (.dK kvs) ∧ KvE kvs r ∧ kvs.length + 2 * t.dep ≤ 200 ∧ isT t = true ∧ wrong (langT T hs) (t, r, k) = none ∧
  ∀ p H' ws, Same H H' → H p = none → H' p = some (.lst ws) → Ents K H' ws (inner (langT T hs) (t, r, k)) → Q (.ref p) H'
end K27

set_option maxHeartbeats 8000000
namespace K27
open PySem PySem.Spec PyProof.Rows L2
variable {P : Program} {w : World} {K : PySem.W.Frag} {mg : Str → Option Value} {base : Heap}
theorem walk_zipT {a b : Addr} {xs ys : List V} {n : Nat} (h1 : xs.length = n) (h2 : ys.length = n) : Walk (RZ.ItzT K a b) n (fun H => SqT K H a xs ∧ SqT K H b ys) (YPair (fun i => xs[i]?) (fun i => ys[i]?)) := by
  refine ⟨fun i H hi q => ⟨xs, ys, xs[i], ys[i], q.1, q.2, by simp, by simp⟩, fun H q => ⟨xs, ys, q.1, q.2, .inl (by omega)⟩, fun i H v H' _ q y => ?_⟩
  obtain ⟨T, x, z, e1, e2, e3, e4, e5⟩ := y
  exact ⟨T, x, z, e1, e2, e3, e4 xs q.1, e5 ys q.2⟩
theorem wrong_call_ok {L : Lang} {f : Str} {args : List Tm} {r : Sg} {k : Str} (h : wrong L (.call f args, r, k) = none) : ∃ p, L.head f = some p ∧ p.2.1.length = args.length ∧ ∀ t ∈ args, isT t = true := by
  have h2 := things_of_ok h
  unfold wrong at h
  simp only at h
  cases hp : L.head f with
  | none => rw [hp] at h; cases h
  | some p =>
    have hs : slots L (.call f args) = p.2.1.map fun k => .term k [] := by unfold slots; simp only [hp]
    have hl : (slots L (.call f args)).length = args.length := h2.1
    rw [hs, List.length_map] at hl
    refine ⟨p, rfl, hl, fun t ht => ?_⟩
    obtain ⟨i, hi⟩ := List.getElem?_of_mem ht
    have hil := (List.getElem?_eq_some_iff.mp hi).1
    have hm : (Item.term (p.2.1[i]'(by omega)) [], t) ∈ both L (.call f args) := by
      unfold both
      rw [hs]
      refine List.mem_of_getElem? (i := i) ?_
      show ((p.2.1.map fun k => Item.term k []).zip args)[i]? = _
      rw [List.getElem?_zip_eq_some]
      refine ⟨?_, hi⟩
      rw [List.getElem?_map, List.getElem?_eq_getElem (by omega)]
      rfl
    exact List.all_eq_true.mp h2.2 _ hm
theorem wrong_use_ok {L : Lang} {t h : Str} {ths : List Tm} {r : Sg} {k : Str} (hw : wrong L (.use t h ths, r, k) = none) : ∃ f, t = L.name ∧ L.form h = some f ∧ f.dues.length = ths.length ∧ (f.dues.zip ths).all fits = true ∧ both L (.use t h ths) = f.dues.zip ths ∧ wrongThings L (.use t h ths) = none ∧ f.kind = k := by
  have h2 := things_of_ok hw
  unfold wrong at hw
  simp only at hw
  by_cases ht : t = L.name
  · rw [if_pos ht] at hw
    cases hp : L.form h with
    | none => rw [hp] at hw; cases hw
    | some f =>
      rw [hp] at hw
      simp only at hw
      have hs : slots L (.use t h ths) = f.dues := by unfold slots; simp only [hp]
      have hb : both L (.use t h ths) = f.dues.zip ths := by unfold both; rw [hs]; rfl
      have hl : (slots L (.use t h ths)).length = ths.length := h2.1
      rw [hs] at hl
      have hf := h2.2
      simp only at hf
      rw [hb] at hf
      cases hwt : wrongThings L (.use t h ths) with
      | some x => rw [hwt] at hw; cases hw
      | none =>
        rw [hwt] at hw
        simp only at hw
        refine ⟨f, ht, rfl, hl, hf, hb, rfl, ?_⟩
        by_cases hk : f.kind = k
        · exact hk
        · rw [if_neg hk] at hw
          cases hw
  · rw [if_neg ht] at hw
    cases hw
theorem find_filter {α : Type} {q : α → Bool} {l : List α} {x : α} (h : l.find? q = some x) : (l.filter q)[0]? = some x := by
  rw [← List.head?_eq_getElem?, List.head?_filter]
  exact h
theorem take_zip' {α β : Type} : ∀ {i : Nat} {l : List α} {m : List β}, (l.zip m).take i = (l.take i).zip (m.take i)
  | 0, _, _ => by simp
  | _ + 1, [], _ => by simp
  | _ + 1, _ :: _, [] => by simp
  | i + 1, _ :: _, _ :: _ => by simp [take_zip' (i := i)]
theorem putK_len (kvs : List (Key × V)) (k : Key) (v : V) : (putK kvs k v).length ≤ kvs.length + 1 := by
  unfold putK
  split <;> simp
theorem tup_but {H H' : Hp} {d : Addr} {kvs : List (Key × V)} (h : ∀ c, c ≠ d → H' c = H c) (e : H d = some (.dK kvs)) : TupK H H' := by
  intro c o ho hc
  by_cases z : c = d
  · subst z
    rw [e] at hc
    cases hc
    cases ho
  · rw [h c z]
    exact hc
theorem same_but {H H1 H' : Hp} {d : Addr} (hn : H d = none) (s : Same H H1) (h : ∀ c, c ≠ d → H' c = H1 c) : Same H H' := fun c o e => by
  rw [h c (ne_of_none e hn)]
  exact s c o e
abbrev N_Linner : List Str := ["_law_rules", "_law_term", "_law_known", "_law_kinds", "_law_form", "_law_names", "_law_found", "_law_item", "_law_thing", "_law_inner_here", "_law_j", "_law_one", "_law_arg", "_law_its"]
theorem sc_Linner : FnScope N_Linner ["_law_rules", "_law_term", "_law_known"] (defScope s_Linner) := ⟨rfl, rfl, rfl, by decide +kernel, rfl, by decide +kernel, by decide +kernel⟩
theorem ok_Linner (T : TX K mg) : Ok P w K mg base CX0 1 "_law_inner" ["_law_rules", "_law_term", "_law_known"] (spInner K) := by
  refine Ok.mk' T T.m_Linner T.f_Linner sc_Linner (fun vs H Q E h => ?_) (fun _ _ _ _ _ _ us hl => match us, hl with | [_, _, _], _ => rfl) (fun cdv A outer s H vs Q E hr h => ?_)
  · obtain ⟨rv, tv, d, kvs, Tg, hs, t, r, k, rfl, _⟩ := h
    rfl
  · obtain ⟨rv, tv, d, kvs, Tg, hs, t, r, k, rfl, hR, dt, ed, hkE, hkl, ht, hw, q⟩ := h
    have hu := hu_of hr
    obtain ⟨⟨ra, Tv, hl, hv, rfl, hra, dT, ehl, thl⟩, okT, hokT⟩ := hR
    refine ⟨_, (pss_cons (ps_if (pt_cmpR op_eq (pe_ix ix_tup (pv 1) pe_int (fun _ _ => rfl)) pe_str (nomark _))
        (pss_one (ps_ret (pe_lst pa_nil)))
        pss_nil)
      (pss_cons (ps_if (pt_cmpR op_eq (pe_ix ix_tup (pv 1) pe_int (fun _ _ => rfl)) pe_str (nomark _))
        (pss_cons (ps_set (i := 3) sc_Linner.nd rfl (Or.inl rfl) (pe_ix ix_tup (pe_ix ix_list (pe_lc (own := [("_law_one", 11)]) (g := gName 11) (by rfl) sc_Linner.nd (pi_list (pe_ix ix_tup (pv 0) pe_int (fun _ _ => rfl))) (blkOk_by (own := [("_law_one", 11)]) (N := N_Linner) (sc := defScope s_Linner) (by decide +kernel)) (fun _ _ _ _ _ => (pg_name (i := 11) sc_Linner.nd rfl (Or.inl rfl))) (fun _ _ _ _ _ => pts_one (pt_cmpR op_eq (pe_ix (ix_tupK (K := K)) (pv 11) pe_int (fun _ _ => rfl)) (pe_ix (ix_tupK (K := K)) (pv 1) pe_int (fun _ _ => rfl)) (nomark _))) (fun _ _ _ _ _ => (pv 11))) pe_int (fun _ _ => rfl)) pe_int (fun _ _ => rfl)))
        (pss_one (ps_ret (pe_lc (own := [("_law_arg", 12), ("_law_its", 13)]) (g := gTup K 2 (gCons (gName 12) (gCons (gName 13) gNil))) (tt := tYes) (by rfl) sc_Linner.nd (RZ.pi_zipA (by rfl) T.n_zip (pa_cons (pe_ix ix_tup (pv 1) pe_int (fun _ _ => rfl)) (pa_cons (pv 3) pa_nil))) (blkOk_by (own := [("_law_arg", 12), ("_law_its", 13)]) (N := N_Linner) (sc := defScope s_Linner) (by decide +kernel)) (fun _ _ _ _ _ => (pg_tup rfl (pgs_cons (pg_name (i := 12) sc_Linner.nd rfl (Or.inl rfl)) (pgs_cons (pg_name (i := 13) sc_Linner.nd rfl (Or.inl rfl)) pgs_nil)))) (fun _ _ _ _ _ => pts_nil) (fun _ _ _ _ _ => (pe_tup (pa_cons (pv 12) (pa_cons (pv 2) (pa_cons (pv 13) pa_nil)))))))))
        pss_nil)
      (pss_cons (ps_par3 (i := 4) (j := 5) (l := 6) (by rfl) sc_Linner.nd rfl rfl rfl (by decide) (by decide) (by decide) rfl rfl rfl (pa_cons (pe_ix ix_list (pe_lc (own := [("_law_form", 4)]) (g := gName 4) (by rfl) sc_Linner.nd (pi_tup (pe_ix ix_tup (pe_ix ix_tup (pv 0) pe_int (fun _ _ => rfl)) pe_int (fun _ _ => rfl))) (blkOk_by (own := [("_law_form", 4)]) (N := N_Linner) (sc := defScope s_Linner) (by decide +kernel)) (fun _ _ _ _ _ => (pg_name (i := 4) sc_Linner.nd rfl (Or.inl rfl))) (fun _ _ _ _ _ => pts_one (pt_cmpR op_eq (pe_ix (ix_tupK (K := K)) (pv 4) pe_int (fun _ _ => rfl)) (pe_ix (ix_tupK (K := K)) (pv 1) pe_int (fun _ _ => rfl)) (nomark _))) (fun _ _ _ _ _ => (pv 4))) pe_int (fun _ _ => rfl)) (pa_cons (pe_lst pa_nil) (pa_cons (pe_lst pa_nil) pa_nil))) (by rfl))
      (pss_cons (ps_for PassesOwn.never rfl (K27Z.pi_zipLT (by rfl) T.n_zip (pa_cons (pe_lc (own := [("_law_item", 7)]) (g := gName 7) (by rfl) sc_Linner.nd (pi_tup (pe_ix ix_tup (pv 4) pe_int (fun _ _ => rfl))) (blkOk_by (own := [("_law_item", 7)]) (N := N_Linner) (sc := defScope s_Linner) (by decide +kernel)) (fun _ _ _ _ _ => (pg_name (i := 7) sc_Linner.nd rfl (Or.inl rfl))) (fun _ _ _ _ _ => pts_one (pt_cmpR op_ne (pe_ix (ix_tupK (K := K)) (pv 7) pe_int (fun _ _ => rfl)) pe_str (nomark _))) (fun _ _ _ _ _ => (pv 7))) (pa_cons (pe_ix ix_tup (pv 1) pe_int (fun _ _ => rfl)) pa_nil))) (pg_tup rfl (pgs_cons (pg_name (i := 7) sc_Linner.nd rfl (.inl rfl)) (pgs_cons (pg_name (i := 8) sc_Linner.nd rfl (.inl rfl)) pgs_nil)))
        (pss_cons (ps_if (pt_cmpR op_eq (pe_ix ix_tup (pv 7) pe_int (fun _ _ => rfl)) pe_str (nomark _))
          (pss_one (ps_expr (pe_bm PySem.F.plainAttrs_list PySem.F.slot_list_append PySem.F.type_list_append mt_append (pv 5) (pa_cons (pe_tup (pa_cons (pv 8) (pa_cons (pe_ix ix_tup (pv 7) pe_int (fun _ _ => rfl)) pa_nil))) pa_nil))))
          pss_nil)
        (pss_one (ps_if (pt_cmpR op_eq (pe_ix ix_tup (pv 7) pe_int (fun _ _ => rfl)) pe_str (nomark _))
          (pss_cons (ps_set (i := 9) sc_Linner.nd rfl (Or.inl rfl) (pe_callTy call_dictD (by rfl) T.n_dict (by decide +kernel) (pa_cons (pv 2) pa_nil)))
          (pss_cons (ps_for PassesOwn.never rfl (pi_tup (pe_ix ix_tup (pv 7) pe_int (fun _ _ => rfl))) (pg_name (i := 10) sc_Linner.nd rfl (.inl rfl))
            (pss_one (ps_dput hu (pv 9) (pe_ix ix_tup (pe_ix ix_list (pv 5) (pv 10) (fun _ _ => rfl)) pe_int (fun _ _ => rfl)) (pe_ix ix_tup (pe_ix ix_list (pv 5) (pv 10) (fun _ _ => rfl)) pe_int (fun _ _ => rfl)) rfl)))
          (pss_one (ps_expr (pe_bm PySem.F.plainAttrs_list PySem.F.slot_list_append PySem.F.type_list_append mt_append (pv 6) (pa_cons (pe_tup (pa_cons (pv 8) (pa_cons (pv 9) (pa_cons (pe_ix ix_tup (pv 7) pe_int (fun _ _ => rfl)) pa_nil)))) pa_nil))))))
          pss_nil))))
      (pss_one (ps_ret (pv 6))))))), ?_⟩
    obtain ⟨a, xs, e0, hT, hwd, _⟩ := tm_fields dt ht
    have hwdn := word_name ht
    subst e0
    refine ⟨_, rfl, a, xs, 0, .str t.word, rfl, rfl, hT.sq, at_of (j := 0) rfl hwd, rfl, _, rfl, ?_⟩
    rw [decV, hwdn]
    cases t with
    | num i => cases ht
    | nm x => cases ht
    | name x =>
      refine ifT rfl ⟨lz 0, fun p hp => ?_⟩
      exact q p _ [] (same_new hp) hp upd_same .nil
    | call f args =>
      refine ifF rfl ?_
      clear hwd hwdn
      unfold Tm.data at dt
      rw [dataL_map] at dt
      obtain ⟨b, v1, v2, v3, e1, hTt, h1, h2, h3⟩ := Td.i3 dt
      cases e1
      obtain rfl := h1.strI
      obtain rfl := h2.strI
      obtain ⟨c, cs, rfl, hc, tc⟩ := h3.inv
      obtain ⟨p, hp, hpl, hpt⟩ := wrong_call_ok hw
      refine ⟨_, rfl, a, _, 0, _, rfl, rfl, hTt.sq, rfl, rfl, _, rfl, ?_⟩
      refine ifT (show decide (V.str ("call" : Str) = V.str "call") = true by rw [decV]; decide +kernel) ?_
      have hpm : p ∈ hs := List.mem_of_find?_eq_some hp
      have hp7 := hokT.args p hpm
      have hhl : hv.length = hs.length := by rw [thl.len, List.length_map]
      have hh5 := hokT.len
      refine ⟨_, rfl, ra, _, 1, .ref hl, rfl, rfl, hra.sq, rfl, hl, rfl, ⟨_, .inl (.inl ehl)⟩, fun D nD => lc_it (walk_list (K := K) (a := hl) (xs := hv)) (fun i H' => Same H H' ∧ ∃ acc, H' D = some (.lst acc) ∧ Tds K H' acc (((hs.take i).filter fun q => decide (q.1 = f)).map headD)) ⟨same_new nD, [], upd_same, .nil⟩ (fun i H' _ hP => Same.seq hP.1 (.inl (.inl ehl))) (fun i x Ha Hb hi hP hY => ?_) (fun Ha hP => ?_)⟩
      · obtain ⟨sa, acc, ea, ta⟩ := hP
        obtain ⟨rfl, hx⟩ := hY
        obtain ⟨dd, hdd, dx⟩ := (thl.mono (tk sa)).getV hx
        obtain ⟨q0, hq0, rfl⟩ := map_at hdd
        obtain ⟨e, u1, u2, u3, rfl, hTe, k1, k2, k3⟩ := Td.i3 dx
        obtain rfl := k1.strI
        have keep : (hs.take (i + 1)).filter (fun q => decide (q.1 = f)) = (hs.take i).filter (fun q => decide (q.1 = f)) ++ [q0].filter (fun q => decide (q.1 = f)) := by
          rw [take_succ' hq0, List.filter_append]
        refine ⟨rfl, _, rfl, e, _, 0, .str q0.1, rfl, rfl, hTe.sq, rfl, _, rfl, a, _, 1, .str f, rfl, rfl, (hTt.mono (tk sa)).sq, rfl, rfl, _, rfl, ?_⟩
        rw [decV]
        by_cases hn : q0.1 = f
        · refine ifT (decide_eq_true hn) ⟨_, rfl, acc, ea, ?_, smut sa nD, _, upd_same, ?_⟩
          · rw [ta.len, List.length_map]
            have := List.length_filter_le (fun q : Hd => decide (q.1 = f)) (hs.take i)
            rw [List.length_take] at this
            exact lzl (by omega)
          · rw [keep, List.filter_cons_of_pos (by simp [hn]), List.map_append]
            exact Tds.mono (TupK.put (TupK.refl _) ea rfl) (ta.snoc dx)
        · refine ifF (decide_eq_false hn) ⟨sa, acc, ea, ?_⟩
          rw [keep, List.filter_cons_of_neg (by simp [hn])]
          simpa using ta
      obtain ⟨sa, acc, ea, ta⟩ := hP
      rw [show hs.take hv.length = hs from List.take_of_length_le (by omega)] at ta
      obtain ⟨z, hz, dz⟩ := ta.get (i := 0) (d := headD p) (by
        have hp' : hs.find? (fun q => decide (q.1 = f)) = some p := hp
        rw [List.getElem?_map, find_filter hp']
        rfl)
      obtain ⟨e, u1, u2, u3, rfl, hTe, k1, k2, k3⟩ := Td.i3 dz
      obtain ⟨ka, kvs', rfl, hka, hks⟩ := k2.inv
      have hkl' : kvs'.length = args.length := by rw [hks.len, List.length_map, hpl]
      have hcl : cs.length = args.length := by rw [tc.len, List.length_map]
      refine ⟨D, acc, 0, .ref e, rfl, rfl, .inl (.inl ea), at_of (j := 0) rfl hz, e, _, 1, .ref ka, rfl, rfl, hTe.sq, rfl, ?_⟩
      have hic : inner (langT Tg hs) (.call f args, r, k) = (p.2.1.zip args).map fun q => (q.2, r, q.1) := inner_call hp
      refine ⟨_, rfl, a, _, 2, .ref c, rfl, rfl, (hTt.mono (tk sa)).sq, rfl, _, rfl, c, ka, cs, kvs', rfl, .inr ⟨(hc.mono (tk sa)).sq, hka.sq, fun D2 nD2 => ?_⟩⟩
      refine lc_it (walk_zipT hcl hkl') (fun i H' => Same Ha H' ∧ ∃ acc, H' D2 = some (.lst acc) ∧ Ents K H' acc ((inner (langT Tg hs) (.call f args, r, k)).take i)) ⟨same_new nD2, [], upd_same, .nil⟩ (fun i H' _ hP => ⟨(hc.mono (tk (sa.trans hP.1))).sq, (hka.mono (tk hP.1)).sq⟩) (fun i x Hb Hc hi hP hY => ?_) (fun Hb hP => ?_)
      · obtain ⟨sb, acc2, eb, tb⟩ := hP
        obtain ⟨Tp, x1, x2, rfl, nT, eH, f1, f2⟩ := hY
        subst eH
        generalize hE : upd Hb Tp _ = Hc
        obtain ⟨sT, eT⟩ := mk hE nT
        obtain ⟨d1, hd1, dx1⟩ := tc.getV f1
        obtain ⟨u, hu1, rfl⟩ := map_at hd1
        obtain ⟨d2, hd2, dx2⟩ := hks.getV f2
        obtain ⟨kk, hkk, rfl⟩ := map_at hd2
        obtain rfl := dx2.strI
        have hum := List.mem_of_getElem? hu1
        have hdep : u.dep + 1 ≤ (Tm.call f args).dep := by
          have h1 := depL_mem hum
          have h2 := dep_things ht
          simp only [things] at h2
          omega
        refine ⟨Tp, _, rfl, .inl (.inl eT), rfl, _, _, rfl, _, _, rfl, rfl, rfl, _, rfl, _, rfl, _, rfl, lz 3, fun pt hpt => ?_⟩
        generalize hE : upd Hc pt _ = Hd
        obtain ⟨sp, ep⟩ := mk hE hpt
        have sbd := sT.trans sp
        have eD := sbd _ _ eb
        have hal : acc2.length ≤ args.length := by
          have h1 := Paired.length tb
          rw [List.length_take] at h1
          omega
        have hin : (inner (langT Tg hs) (.call f args, r, k))[i]? = some (u, r, kk) := by
          rw [hic, List.getElem?_map, (List.getElem?_zip_eq_some (z := (kk, u))).mpr ⟨hkk, hu1⟩]
          rfl
        refine ⟨acc2, eD, lzl (by omega), smut (sb.trans sbd) nD2, _, upd_same, ?_⟩
        rw [take_succ' hin]
        have sH : Same H Hd := sa.trans (sb.trans sbd)
        have hne : ∀ c, c ≠ D2 → (upd Hd D2 (HO.lst (acc2 ++ [V.ref pt]))) c = Hd c := fun c hc => upd_ne hc
        have nd2 : d ≠ D2 := ne_of_none (sa _ _ ed) nD2
        have nptD : pt ≠ D2 := fun z => by
          rw [z, sT _ _ eb] at hpt
          cases hpt
        refine Ents.app (Paired.mapP (tb.same sbd) fun v x h => ?_) (.cons ⟨pt, x1, d, kvs, rfl, by rw [hne _ nptD]; exact ep, ?_, by rw [hne _ nd2]; exact sH _ _ ed, hkE, ?_⟩ .nil)
        · obtain ⟨a', tv', d', kv', e', g1, g2, g3, g4, g5⟩ := h
          refine ⟨a', tv', d', kv', e', ?_, Td.mono (TupK.put (TupK.refl _) eD rfl) g2, ?_, g4, g5⟩
          · rw [hne _ (ne_of g1 eD (by intro z; cases z))]; exact g1
          · rw [hne _ (ne_of g3 eD (by intro z; cases z))]; exact g3
        · exact Td.mono (TupK.put (TupK.refl _) eD rfl) (dx1.mono (tk sH))
        · show kvs.length + 2 * u.dep ≤ 200
          omega
      · obtain ⟨sb, acc2, eb, tb⟩ := hP
        have hlen : (inner (langT Tg hs) (.call f args, r, k)).length ≤ args.length := by
          rw [hic, List.length_map, List.length_zip]
          omega
        rw [List.take_of_length_le hlen] at tb
        exact q D2 Hb acc2 (sa.trans sb) (Same.free sa nD2) eb tb
    | use t' h ths =>
      refine ifF rfl ?_
      clear hwd hwdn
      unfold Tm.data at dt
      rw [dataL_map] at dt
      obtain ⟨b, v1, v2, v3, v4, e1, hTt, h1, h2, h3, h4⟩ := Td.i4 dt
      cases e1
      obtain rfl := h1.strI
      obtain rfl := h2.strI
      obtain rfl := h3.strI
      obtain ⟨c, cs, rfl, hc, tc⟩ := h4.inv
      obtain ⟨fm, hT', hfm, hfl, hff, hbo, hwt, hfk⟩ := wrong_use_ok hw
      refine ⟨_, rfl, a, _, 0, _, rfl, rfl, hTt.sq, rfl, rfl, _, rfl, ?_⟩
      refine ifF (show decide (V.str ("use" : Str) = V.str "call") = false by rw [decV]; decide +kernel) ?_
      obtain ⟨aT, b1, b2, b3, b4, b5, b6, b7, rfl, hTB, t1, t2, t3, t4, t5, t6, t7⟩ := Td.i7 dT
      obtain ⟨af, fsv, rfl, haf, hfs⟩ := Td.inv t7
      clear t1 t2 t3 t4 t5 t6 t7
      have hfsl : fsv.length = Tg.forms.length := by rw [hfs.len, List.length_map]
      have hfl100 := okT.flen
      -- its form
      obtain ⟨fo, hfo, hfo1⟩ : ∃ fo : Form × PyData, Tg.forms.find? (fun q => decide (q.1.head = h)) = some fo ∧ fo.1 = fm := by
        have hh : (Tg.forms.map (·.1)).find? (fun g => decide (g.head = h)) = some fm := hfm
        rw [List.find?_map] at hh
        obtain ⟨fo, h1, h2⟩ := Option.map_eq_some_iff.mp hh
        exact ⟨fo, h1, h2⟩
      have hfom := List.mem_of_find?_eq_some hfo
      obtain ⟨hfo2, hfo3, hfo4, hfo5⟩ := okT.form fo hfom
      subst hfo1
      refine ⟨_, rfl, ra, _, 0, .ref aT, rfl, rfl, hra.sq, rfl, aT, _, 6, .ref af, rfl, rfl, hTB.sq, rfl, af, rfl, ⟨_, haf.sq⟩, fun D nD => lc_it (walk_tup (K := K) (a := af) (xs := fsv)) (fun i H' => Same H H' ∧ ∃ acc, H' D = some (.lst acc) ∧ Tds K H' acc (((Tg.forms.take i).filter fun q => decide (q.1.head = h)).map formD)) ⟨same_new nD, [], upd_same, .nil⟩ (fun i H' _ hP => (haf.mono (tk hP.1)).sq) (fun i x Ha Hb hi hP hY => ?_) (fun Ha hP => ?_)⟩
      · obtain ⟨sa, acc, ea, ta⟩ := hP
        obtain ⟨rfl, hx⟩ := hY
        obtain ⟨dd, hdd, dx⟩ := (hfs.mono (tk sa)).getV hx
        obtain ⟨q0, hq0, rfl⟩ := map_at hdd
        obtain ⟨e, u1, u2, u3, u4, rfl, hTe, k1, k2, k3, k4⟩ := Td.i4 dx
        obtain rfl := k1.strI
        have keep : (Tg.forms.take (i + 1)).filter (fun q => decide (q.1.head = h)) = (Tg.forms.take i).filter (fun q => decide (q.1.head = h)) ++ [q0].filter (fun q => decide (q.1.head = h)) := by
          rw [take_succ' hq0, List.filter_append]
        refine ⟨rfl, _, rfl, e, _, 0, .str q0.1.head, rfl, rfl, hTe.sq, rfl, _, rfl, a, _, 2, .str h, rfl, rfl, (hTt.mono (tk sa)).sq, rfl, rfl, _, rfl, ?_⟩
        rw [decV]
        by_cases hn : q0.1.head = h
        · refine ifT (decide_eq_true hn) ⟨_, rfl, acc, ea, ?_, smut sa nD, _, upd_same, ?_⟩
          · rw [ta.len, List.length_map]
            have := List.length_filter_le (fun q : Form × PyData => decide (q.1.head = h)) (Tg.forms.take i)
            rw [List.length_take] at this
            exact lzl (by omega)
          · rw [keep, List.filter_cons_of_pos (by simp [hn]), List.map_append]
            exact Tds.mono (TupK.put (TupK.refl _) ea rfl) (ta.snoc dx)
        · refine ifF (decide_eq_false hn) ⟨sa, acc, ea, ?_⟩
          rw [keep, List.filter_cons_of_neg (by simp [hn])]
          simpa using ta
      obtain ⟨sa, acc, ea, ta⟩ := hP
      rw [show Tg.forms.take fsv.length = Tg.forms from List.take_of_length_le (by omega)] at ta
      obtain ⟨z, hz, dz⟩ := ta.get (i := 0) (d := formD fo) (by rw [List.getElem?_map, find_filter hfo]; rfl)
      obtain ⟨fa, u1, u2, u3, u4, rfl, hFa, k1, k2, k3, k4⟩ := Td.i4 dz
      obtain ⟨ia, its, rfl, hia, hits⟩ := k2.inv
      clear k1 k2 k3 k4
      have hitl : its.length = fo.1.items.length := by rw [hits.len, List.length_map]
      refine ⟨D, acc, 0, .ref fa, rfl, rfl, .inl (.inl ea), at_of (j := 0) rfl hz, lz 0, fun NL nNL => ?_⟩
      generalize hE : upd _ NL _ = H2
      obtain ⟨s2, e2⟩ := mk hE nNL
      refine ⟨lz 0, fun FL nFL => ⟨_, _, _, rfl, ?_⟩⟩
      generalize hE : upd _ FL _ = H3
      obtain ⟨s3, e3⟩ := mk hE nFL
      have nNLH : H NL = none := Same.free sa nNL
      have nFLH : H FL = none := Same.free (sa.trans s2) nFL
      have nNF : NL ≠ FL := ne_of_none e2 nFL
      have s03 : Same H H3 := sa.trans (s2.trans s3)
      have eNL3 := s3 _ _ e2
      have hFa3 := hFa.mono (tk (s2.trans s3))
      have hia3 := hia.mono (tk (s2.trans s3))
      have hits3 := hits.mono (tk (s2.trans s3))
      clear hE e2 s2 s3 ea ta hz dz nNL nFL sa hFa hia hits acc nD
      -- the items that a thing is due for
      refine ⟨_, rfl, fa, _, 1, .ref ia, rfl, rfl, hFa3.sq, rfl, ia, rfl, ⟨_, hia3.sq⟩, fun D2 nD2 => lc_it (walk_tup (K := K) (a := ia) (xs := its)) (fun i H' => Same H3 H' ∧ ∃ acc, H' D2 = some (.lst acc) ∧ Tds K H' acc (((fo.1.items.take i).filter notSign).map Item.data)) ⟨same_new nD2, [], upd_same, .nil⟩ (fun i H' _ hP => (hia3.mono (tk hP.1)).sq) (fun i x Ha Hb hi hP hY => ?_) (fun Ha hP => ?_)⟩
      · obtain ⟨sa, acc, ea, ta⟩ := hP
        obtain ⟨rfl, hx⟩ := hY
        obtain ⟨dd, hdd, dx⟩ := (hits3.mono (tk sa)).getV hx
        obtain ⟨it, hit, rfl⟩ := map_at hdd
        obtain ⟨a2, rest, rfl, hT2, _⟩ := Item.fields dx
        have keep : (fo.1.items.take (i + 1)).filter notSign = (fo.1.items.take i).filter notSign ++ [it].filter notSign := by
          rw [take_succ' hit, List.filter_append]
        have hsg : (!decide (it.tag = "sign")) = notSign it := by cases it <;> rfl
        refine ⟨rfl, _, rfl, a2, _, 0, .str it.tag, rfl, rfl, hT2.sq, at_of (j := 0) rfl rfl, rfl, _, rfl, ?_⟩
        rw [decV, hsg]
        cases hN : notSign it with
        | true =>
          refine ifT rfl ⟨_, rfl, acc, ea, ?_, smut sa nD2, _, upd_same, ?_⟩
          · rw [ta.len, List.length_map]
            have := List.length_filter_le notSign (fo.1.items.take i)
            rw [List.length_take] at this
            exact lzl (by omega)
          · rw [keep, List.filter_cons_of_pos hN, List.map_append]
            exact Tds.mono (TupK.put (TupK.refl _) ea rfl) (ta.snoc dx)
        | false =>
          refine ifF rfl ⟨sa, acc, ea, ?_⟩
          rw [keep, List.filter_cons_of_neg (by rw [hN]; exact Bool.false_ne_true)]
          simpa using ta
      obtain ⟨sa, due, ea, ta⟩ := hP
      rw [show fo.1.items.take its.length = fo.1.items from List.take_of_length_le (by omega)] at ta
      replace ta : Tds K Ha due (fo.1.dues.map Item.data) := ta
      have hcl : cs.length = ths.length := by rw [tc.len, List.length_map]
      have hdl : due.length = ths.length := by rw [ta.len, List.length_map, hfl]
      have hth7 : ths.length ≤ 7 := by
        rw [← hfl]
        exact Nat.le_trans (List.length_filter_le _ _) hfo5
      have s0a := s03.trans sa
      have nD2N : D2 ≠ NL := (ne_of_none eNL3 nD2).symm
      have nD2F : D2 ≠ FL := (ne_of_none e3 nD2).symm
      have hB : binds (both (langT Tg hs) (.use t' h ths)) = binds (fo.1.dues.zip ths) := by rw [hbo]
      generalize hBn : binds (fo.1.dues.zip ths) = B at hB
      have hinn : inner (langT Tg hs) (.use t' h ths, r, k) = (fo.1.dues.zip ths).filterMap (entryOf r B) := by
        unfold inner
        simp only [hbo, hBn]
      have hdep := dep_things ht
      simp only [things] at hdep
      refine ⟨_, rfl, a, _, 3, .ref c, rfl, rfl, (hTt.mono (tk s0a)).sq, rfl, D2, c, due, cs, rfl, .inl (.inl ea), (hc.mono (tk s0a)).sq, ?_⟩
      refine for_it (K27Z.walk_zipG (sq1 := K27Z.sqL K D2) (sq2 := K27Z.sqT K c) hdl hcl) (fun i σ H' => ∃ y7 y8 y9 y10, σ = [some (.ref ra), some (.ref a), some (.ref d), none, some (.ref fa), some (.ref NL), some (.ref FL), y7, y8, y9, y10, none, none, none] ∧ Same H H' ∧ H' D2 = some (.lst due) ∧ TupK Ha H' ∧ ∃ nv fv, H' NL = some (.lst nv) ∧ Tds K H' nv ((binds ((fo.1.dues.zip ths).take i)).map pairD) ∧ H' FL = some (.lst fv) ∧ Ents K H' fv (((fo.1.dues.zip ths).take i).filterMap (entryOf r B)))
        ⟨none, none, none, none, rfl, s0a, ea, TupK.refl _, [], [], sa _ _ eNL3, .nil, sa _ _ e3, .nil⟩ (fun i σ H' _ hP => ?_) (fun i x σ Hb Hc hi hP hY => ?_) (fun σ Hb hP => ?_)
      · obtain ⟨_, _, _, _, _, sm, eD, _⟩ := hP
        exact ⟨.inl (.inl eD), (hc.mono (tk sm)).sq⟩
      · obtain ⟨y7, y8, y9, y10, rfl, sm, eD, kta, nv, fv, eN, tN, eF, tF⟩ := hP
        obtain ⟨Tp, x1, x2, rfl, nT, eH, f1, f2⟩ := hY
        subst eH
        generalize hE : upd Hb Tp _ = H5
        obtain ⟨sT, eT⟩ := mk hE nT
        clear hE
        obtain ⟨d1, hd1, dx1⟩ := (ta.mono (kta.trans (tk sT))).getV f1
        obtain ⟨it, hit, rfl⟩ := map_at hd1
        obtain ⟨d2, hd2, dx2⟩ := (tc.mono (tk (sm.trans sT))).getV f2
        obtain ⟨u, hu2, rfl⟩ := map_at hd2
        have hzi : (fo.1.dues.zip ths)[i]? = some (it, u) := (List.getElem?_zip_eq_some (z := (it, u))).mpr ⟨hit, hu2⟩
        have hfit := List.all_eq_true.mp hff _ (List.mem_of_getElem? hzi)
        have hio := dues_ok hfo3 i it hit
        have hbn : (binds ((fo.1.dues.zip ths).take i)).length = nNames (fo.1.dues.take i) := by
          rw [take_zip']
          refine binds_names (by rw [List.length_take, List.length_take, hfl]) ?_
          rw [← take_zip']
          exact List.all_eq_true.mpr fun q hq => List.all_eq_true.mp hff q (List.mem_of_mem_take hq)
        have hBp : ∃ B2, B = binds ((fo.1.dues.zip ths).take i) ++ B2 := by
          rw [← hBn]
          refine ⟨binds ((fo.1.dues.zip ths).drop i), ?_⟩
          unfold binds
          rw [← List.filterMap_append, List.take_append_drop]
        have hum := List.mem_of_getElem? hu2
        obtain ⟨a2, rest, rfl, hT2, hrest⟩ := Item.fields dx1
        have eN5 := sT _ _ eN
        have eF5 := sT _ _ eF
        have eD5 := sT _ _ eD
        have tN5 := tN.mono (tk sT)
        have tF5 := tF.same sT
        have sm5 := sm.trans sT
        have kta5 := kta.trans (tk sT)
        have hnvl : nv.length ≤ 7 := by
          rw [tN.len, List.length_map]
          unfold binds
          have h1 := List.length_filterMap_le bindOf ((fo.1.dues.zip ths).take i)
          rw [List.length_take, List.length_zip] at h1
          omega
        have hfvl : fv.length ≤ 7 := by
          have h1 := Paired.length tF
          have h2 := List.length_filterMap_le (entryOf r B) ((fo.1.dues.zip ths).take i)
          rw [List.length_take, List.length_zip] at h2
          omega
        refine ⟨Tp, _, rfl, .inl (.inl eT), rfl, _, _, rfl, _, _, rfl, rfl, ?_⟩
        refine ⟨_, rfl, a2, _, 0, .str it.tag, rfl, rfl, hT2.sq, at_of (j := 0) rfl rfl, rfl, _, rfl, ?_⟩
        rw [decV]
        cases it with
        | sign z => cases u <;> cases hfit
        | lit =>
          refine ifF (show decide (("lit" : Str) = "name") = false by decide +kernel) ⟨_, rfl, a2, _, 0, .str "lit", rfl, rfl, hT2.sq, at_of (j := 0) rfl rfl, rfl, _, rfl, ?_⟩
          rw [decV]
          refine ifF (show decide (("lit" : Str) = "term") = false by decide +kernel) ⟨_, _, _, _, rfl, sm5, eD5, kta5, nv, fv, eN5, ?_, eF5, ?_⟩
          · rw [take_succ' hzi]
            unfold binds
            rw [List.filterMap_append]
            have : [(Item.lit, u)].filterMap bindOf = [] := by cases u <;> rfl
            rw [this, List.append_nil]
            exact tN5
          · rw [take_succ' hzi, List.filterMap_append]
            have : [(Item.lit, u)].filterMap (entryOf r B) = [] := by cases u <;> rfl
            rw [this, List.append_nil]
            exact tF5
        | name kn =>
          cases u with
          | nm x =>
            obtain rfl := (show x2 = .str x from Td.strI dx2)
            obtain ⟨vk, _, rfl, hvk, hr0⟩ := hrest.cons_inv
            obtain rfl := hvk.strI
            obtain rfl := hr0.nil_inv
            refine ifT (show decide (("name" : Str) = "name") = true by decide +kernel) ?_
            refine ⟨_, rfl, .inl ⟨rfl, _, .inl (.inl eN5)⟩, _, rfl, _, rfl, a2, _, 1, .str kn, rfl, rfl, hT2.sq, at_of (j := 1) rfl rfl, lz 2, fun pp hpp => ?_⟩
            generalize hE : upd _ pp _ = H6
            obtain ⟨s6, e6⟩ := mk hE hpp
            have eN6 := s6 _ _ eN5
            refine ⟨NL, nv, _, rfl, rfl, eN6, lzl (by omega), ?_⟩
            generalize hE : upd H6 NL _ = H7
            have eN7 : H7 NL = some (.lst (nv ++ [.ref pp])) := by rw [← hE]; exact upd_same
            have k67 : TupK H6 H7 := by rw [← hE]; exact TupK.put (TupK.refl _) eN6 rfl
            have o7 : ∀ c, c ≠ NL → H7 c = H6 c := fun c hc => by rw [← hE, upd_ne hc]
            have sm7 : Same H H7 := by rw [← hE]; exact smut (sm5.trans s6) nNLH
            refine ⟨_, rfl, a2, _, 0, .str "name", rfl, rfl, (hT2.mono ((tk s6).trans k67)).sq, at_of (j := 0) rfl rfl, rfl, _, rfl, ?_⟩
            rw [decV]
            refine ifF (show decide (("name" : Str) = "term") = false by decide +kernel) ⟨_, _, _, _, rfl, sm7, by rw [o7 _ nD2N]; exact s6 _ _ eD5, kta5.trans ((tk s6).trans k67), nv ++ [.ref pp], fv, eN7, ?_, by rw [o7 _ nNF.symm]; exact s6 _ _ eF5, ?_⟩
            · rw [take_succ' hzi]
              unfold binds
              rw [List.filterMap_append, List.map_append]
              exact ((tN5.mono (tk s6)).mono k67).append (.cons (.at (k67 _ _ rfl e6) (.cons (.str _) (.cons (.str _) .nil))) .nil)
            · rw [take_succ' hzi, List.filterMap_append]
              have : [(Item.name kn, Tm.nm x)].filterMap (entryOf r B) = [] := rfl
              rw [this, List.append_nil]
              refine Paired.mapP (tF5.same s6) fun v y hh => ?_
              obtain ⟨a', tv', d', kv', e', g1, g2, g3, g4, g5⟩ := hh
              exact ⟨a', tv', d', kv', e', by rw [o7 _ (ne_of g1 eN6 (by intro z; cases z))]; exact g1, g2.mono k67, by rw [o7 _ (ne_of g3 eN6 (by intro z; cases z))]; exact g3, g4, g5⟩
          | _ => cases hfit
        | term kt os =>
          obtain ⟨vk, _, rfl, hvk, hr0⟩ := hrest.cons_inv
          obtain rfl := hvk.strI
          obtain ⟨vo, _, rfl, hvo, hr1⟩ := hr0.cons_inv
          obtain rfl := hr1.nil_inv
          obtain ⟨oa, ov, rfl, hoa, hos⟩ := hvo.inv
          obtain ⟨hko, hjo, hlo⟩ := hio
          refine ifF (show decide (("term" : Str) = "name") = false by decide +kernel) ⟨_, rfl, a2, _, 0, .str "term", rfl, rfl, hT2.sq, at_of (j := 0) rfl rfl, rfl, _, rfl, ?_⟩
          rw [decV]
          refine ifT (show decide (("term" : Str) = "term") = true by decide +kernel) ?_
          have hovl : ov.length = os.length := by rw [hos.len, List.length_map]
          have ed5 := sm5 _ _ ed
          refine ⟨_, rfl, d, kvs, rfl, .inl ed5, fun dn hdn => ?_⟩
          generalize hE : upd _ dn _ = H6
          obtain ⟨s6, e6⟩ := mk hE hdn
          have nFd : FL ≠ dn := ne_of_none eF5 hdn
          refine ⟨_, rfl, a2, _, 2, .ref oa, rfl, rfl, (hT2.mono (tk s6)).sq, at_of (j := 2) rfl rfl, oa, rfl, ⟨_, (hoa.mono (tk s6)).sq⟩, ?_⟩
          refine for_it (walk_tup (K := K) (a := oa) (xs := ov)) (fun l σ H' => ∃ y10, σ = [some (.ref ra), some (.ref a), some (.ref d), none, some (.ref fa), some (.ref NL), some (.ref FL), some (.ref a2), some x2, some (.ref dn), y10, none, none, none] ∧ (∀ c, c ≠ dn → H' c = H6 c) ∧ ∃ kv2, H' dn = some (.dK kv2) ∧ KvE kv2 (opened r (binds ((fo.1.dues.zip ths).take i)) (os.take l)) ∧ kv2.length ≤ kvs.length + l)
            ⟨_, rfl, fun _ _ => rfl, kvs, e6, hkE, Nat.le_refl _⟩ (fun l σ H' _ hP => ?_) (fun l y σ Hx H7 hl hP hY => ?_) (fun σ H7 hP => ?_)
          · obtain ⟨_, _, ho, _⟩ := hP
            exact ((hoa.mono (tk s6)).mono (tup_but ho e6)).sq
          · obtain ⟨y10, rfl, ho, kv2, e2, hk2, hl2⟩ := hP
            obtain ⟨rfl, hx⟩ := hY
            have k67 := tup_but ho e6
            obtain ⟨dd, hdd, dx⟩ := hos.getV hx
            obtain ⟨j, hj, rfl⟩ := map_at hdd
            obtain rfl := dx.intI
            have hjn : j < (binds ((fo.1.dues.zip ths).take i)).length := by rw [hbn]; exact hjo j (List.mem_of_getElem? hj)
            obtain ⟨p, hp⟩ : ∃ p, (binds ((fo.1.dues.zip ths).take i))[j]? = some p := ⟨_, List.getElem?_eq_getElem hjn⟩
            obtain ⟨v, hv, dv⟩ := tN5.get (i := j) (d := pairD p) (by rw [List.getElem?_map, hp]; rfl)
            obtain ⟨e, u1, u2, rfl, hTe, k1, k2⟩ := Td.i2 dv
            obtain rfl := k1.strI
            obtain rfl := k2.strI
            have hTe7 := (hTe.mono (tk s6)).mono k67
            have eN7 : H7 NL = some (.lst nv) := by rw [ho _ (ne_of_none eN5 hdn)]; exact s6 _ _ eN5
            refine ⟨_, rfl, _, rfl, NL, nv, j, .ref e, rfl, rfl, .inl (.inl eN7), atI_nat hv, e, _, 1, .str p.2, rfl, rfl, hTe7.sq, at_of (j := 1) rfl rfl, _, rfl, _, rfl, _, rfl, NL, nv, j, .ref e, rfl, rfl, .inl (.inl eN7), atI_nat hv, e, _, 0, .str p.1, rfl, rfl, hTe7.sq, at_of (j := 0) rfl rfl, dn, _, rfl, DPut.k (k := .inr p.1) e2 (lzl (by omega)), _, rfl, fun c hc => by rw [upd_ne hc]; exact ho c hc, _, upd_same, ?_, ?_⟩
            · rw [take_succ' hj]
              unfold opened at hk2 ⊢
              rw [List.foldl_append]
              show KvE _ (match (binds ((fo.1.dues.zip ths).take i))[j]? with
                | some p => Sg.up _ p.1 p.2
                | none => _)
              rw [hp]
              exact hk2.put p.1 p.2
            · have := putK_len kv2 (.inr p.1) (V.str p.2)
              omega
          · obtain ⟨y10, rfl, ho, kv2, e2, hk2, hl2⟩ := hP
            have k67 := tup_but ho e6
            rw [show os.take ov.length = os from List.take_of_length_le (by omega)] at hk2
            have eF7 : H7 FL = some (.lst fv) := by rw [ho _ nFd]; exact s6 _ _ eF5
            have nDd : D2 ≠ dn := ne_of_none eD5 hdn
            have nNd : NL ≠ dn := ne_of_none eN5 hdn
            have s57 : Same H5 H7 := same_but hdn s6 ho
            have hT7 := hT2.mono (tk s57)
            refine ⟨_, rfl, .inl ⟨rfl, _, .inl (.inl eF7)⟩, _, rfl, _, rfl, _, rfl, a2, _, 1, .str kt, rfl, rfl, hT7.sq, at_of (j := 1) rfl rfl, lz 3, fun pp hpp => ?_⟩
            generalize hE : upd _ pp _ = H8
            obtain ⟨s8, e8⟩ := mk hE hpp
            have eF8 := s8 _ _ eF7
            refine ⟨FL, fv, _, rfl, rfl, eF8, lzl (by omega), ?_⟩
            generalize hE : upd H8 FL _ = H9
            have eF9 : H9 FL = some (.lst (fv ++ [.ref pp])) := by rw [← hE]; exact upd_same
            have k89 : TupK H8 H9 := by rw [← hE]; exact TupK.put (TupK.refl _) eF8 rfl
            have o9 : ∀ c, c ≠ FL → H9 c = H8 c := fun c hc => by rw [← hE, upd_ne hc]
            have s08 : Same H H8 := sm5.trans (s57.trans s8)
            have sm9 : Same H H9 := by rw [← hE]; exact smut s08 nFLH
            have k59 : TupK H5 H9 := (tk (s57.trans s8)).trans k89
            refine ⟨_, _, _, _, rfl, sm9, by rw [o9 _ nD2F]; exact (s57.trans s8) _ _ eD5, kta5.trans k59, nv, fv ++ [.ref pp], by rw [o9 _ nNF]; exact (s57.trans s8) _ _ eN5, ?_, eF9, ?_⟩
            · rw [take_succ' hzi]
              unfold binds
              rw [List.filterMap_append]
              have : [(Item.term kt os, u)].filterMap bindOf = [] := by cases u <;> rfl
              rw [this, List.append_nil]
              exact tN5.mono k59
            · rw [take_succ' hzi, List.filterMap_append]
              have : [(Item.term kt os, u)].filterMap (entryOf r B) = [(u, opened r B os, kt)] := by cases u <;> rfl
              rw [this]
              refine Ents.app (Paired.mapP (tF5.same (s57.trans s8)) fun v y hh => ?_) (.cons ?_ .nil)
              · obtain ⟨a', tv', d', kv', e', g1, g2, g3, g4, g5⟩ := hh
                exact ⟨a', tv', d', kv', e', by rw [o9 _ (ne_of g1 eF8 (by intro z; cases z))]; exact g1, g2.mono k89, by rw [o9 _ (ne_of g3 eF8 (by intro z; cases z))]; exact g3, g4, g5⟩
              · refine ⟨pp, x2, dn, kv2, rfl, k89 _ _ rfl e8, dx2.mono k59, by rw [o9 _ nFd.symm]; exact s8 _ _ e2, ?_, ?_⟩
                · obtain ⟨B2, hB2⟩ := hBp
                  show KvE kv2 (opened r B os)
                  rw [hB2, opened_app (fun j hj => by rw [hbn]; exact hjo j hj)]
                  exact hk2
                · have := depL_mem hum
                  show kv2.length + 2 * u.dep ≤ 200
                  omega
      · obtain ⟨y7, y8, y9, y10, rfl, sm, eD, kta, nv, fv, eN, tN, eF, tF⟩ := hP
        rw [List.take_of_length_le (by rw [List.length_zip]; omega), ← hinn] at tF
        exact ⟨_, rfl, q FL Hb fv sm nFLH eF tF⟩
end K27

set_option maxHeartbeats 8000000
namespace L2
open PySem PySem.Spec PyProof.Rows
variable {X : Cx}
/-- xs != [] of a list -/
def rNeE : R2 := fun x y H Q => ∃ l b xs, x = .ref l ∧ y = .ref b ∧ H l = some (.lst xs) ∧ H b = some (.lst []) ∧ Q (.bl (decide (0 < xs.length))) H
theorem op_neE (hu : X.A.units + 64 < cLine) : OpR X (compareOp .NotEq) rNeE := by
  intro pins s σ H x y v u Q I rx ry h
  obtain ⟨l, b, xs, rfl, rfl, hl, hb, q⟩ := h
  cases rx
  cases ry
  obtain ⟨z, its, n, r, hln, e⟩ := I.lstM hl
  obtain ⟨z2, its2, n2, r2, hln2, e2⟩ := I.lstM hb
  have i1 : s.heap.IsList l its.toArray := ⟨_, e, rfl, _, rfl⟩
  have i2 : s.heap.IsList b its2.toArray := ⟨_, e2, rfl, _, rfl⟩
  have n1 : its.length = xs.length := r.length.symm
  have n2' : its2.length = 0 := r2.length.symm
  have hu2 : X.A.units < cLine := by omega
  by_cases hx : xs.length = 0
  · rw [decide_eq_false (by omega)] at q
    have := SeqAt.RcNeAt.lists (A := X.A) (e := fun _ => true) i1 i2 (by rw [List.size_toArray, List.size_toArray]; omega) hu2 (fun j h1 h2 => by
      rw [List.size_toArray] at h1
      omega) X.prog X.w X.xe (EP X pins σ Q) (by
        have hz : its.toArray.size = 0 := by rw [List.size_toArray]; omega
        rw [hz]
        exact ⟨.bl _, H, I, rfl, q⟩)
    exact this
  · rw [decide_eq_true (by omega)] at q
    have := SeqAt.RcNeAt.lists_lengths (A := X.A) i1 i2 (by rw [List.size_toArray, List.size_toArray, bne_iff_ne]; omega) hu2 X.prog X.w X.xe (EP X pins σ Q) ⟨.bl _, H, I, rfl, q⟩
    exact this
end L2

namespace K27
open PySem PySem.Spec PyProof.Rows L2
variable {P : Program} {w : World} {K : PySem.W.Frag} {mg : Str → Option Value} {base : Heap}
theorem Good.isT {L : Lang} {e : Entry} (g : Good L e) : isT e.1 = true := by
  have h := g.ok
  obtain ⟨t, r, k⟩ := e
  cases t <;> first | rfl | (unfold wrong at h; cases h)
theorem Ents.mut {H H' : Hp} {b : Addr} {zs : List V} {vs : List V} {xs : List Entry} (h : Ents K H vs xs) (e : H b = some (.lst zs)) (k : TupK H H') (ho : ∀ c, c ≠ b → H' c = H c) : Ents K H' vs xs := by
  refine Paired.mapP h fun v y hh => ?_
  obtain ⟨a', tv', d', kv', e', g1, g2, g3, g4, g5⟩ := hh
  exact ⟨a', tv', d', kv', e', by rw [ho _ (ne_of g1 e (by intro z; cases z))]; exact g1, g2.mono k, by rw [ho _ (ne_of g3 e (by intro z; cases z))]; exact g3, g4, g5⟩
theorem sqT_same {H H' : Hp} {a : Addr} {xs : List V} (h : SqT K H a xs) (s : Same H H') : SqT K H' a xs := by
  rcases h with (h | ⟨o, h⟩) | h
  · exact .inl (.inl (s _ _ h))
  · exact .inl (.inr ⟨o, s _ _ h⟩)
  · exact .inr h
theorem Ents.last {H : Hp} : ∀ {vs : List V} {xs : List Entry} {e : Entry}, Ents K H vs (xs ++ [e]) → ∃ us v, vs = us ++ [v] ∧ Ents K H us xs ∧ Ent K H v e
  | _, [], _, .cons a .nil => ⟨[], _, rfl, .nil, a⟩
  | _, x :: xs, e, .cons a b => by
    obtain ⟨us, v, e1, h1, h2⟩ := Ents.last b
    exact ⟨_ :: us, v, by rw [e1]; rfl, .cons a h1, h2⟩
theorem flat_len (L : Lang) : ∀ l : List Entry, l.length ≤ (l.flatMap (pre L)).length
  | [] => Nat.le_refl _
  | e :: l => by
    have := flat_len L l
    rw [List.flatMap_cons, List.length_append, pre_eq, List.length_cons, List.length_cons]
    omega
def spSights (K : PySem.W.Frag) : Sp := fun vs H Q _ => ∃ (rv tv pv : V) (T : Tongue) (hs : List Hd) (t : Tm) (ps : List (Str × Str)) (k : Str), vs = [rv, tv, pv, .str k] ∧ Rul K H rv T hs ∧ Td K H tv t.data ∧ Td K H pv (.list (ps.map pairD)) ∧ Good (langT T hs) (t, envL ps, k) ∧ psize t ≤ 1000 ∧ ps.length + 2 * t.dep ≤ 200 ∧
  ∀ p H' ws, Same H H' → H p = none → H' p = some (.lst ws) → Ents K H' ws (pre (langT T hs) (t, envL ps, k)) → Q (.ref p) H'
abbrev N_Lsights : List Str := ["_law_rules", "_law_body", "_law_params", "_law_kind", "_law_found", "_law_left"]
theorem sc_Lsights : FnScope N_Lsights ["_law_rules", "_law_body", "_law_params", "_law_kind"] (defScope s_Lsights) := ⟨rfl, rfl, rfl, by decide +kernel, rfl, by decide +kernel, by decide +kernel⟩
theorem ok_Lsights (T : TX K mg) : Ok P w K mg base CX0 2 "_law_sights" ["_law_rules", "_law_body", "_law_params", "_law_kind"] (spSights K) := by
  refine Ok.mk' T T.m_Lsights T.f_Lsights sc_Lsights (fun vs H Q E h => ?_) (fun _ _ _ _ _ _ us hl => match us, hl with | [_, _, _, _], _ => rfl) (fun cdv A outer s H vs Q E hr h => ?_)
  · obtain ⟨rv, tv, pv, Tg, hs, t, ps, k, rfl, _⟩ := h
    rfl
  · obtain ⟨rv, tv, pv', Tg, hs, t, ps, k, rfl, hR, dt, dp, hG, hsz, hdep, q⟩ := h
    have hu := hu_of hr
    have hu64 := hr.units
    refine ⟨_, (pss_cons (ps_par (i := 4) (j := 5) (by rfl) sc_Lsights.nd rfl rfl (by decide) rfl rfl (pa_cons (pe_lst pa_nil) (pa_cons (pe_lst (pa_cons (pe_tup (pa_cons (pv 1) (pa_cons (pe_callTy (call_dictP rfl) (by rfl) T.n_dict (by decide +kernel) (pa_cons (pe_callTy call_list_of (by rfl) T.n_list (by decide +kernel) (pa_cons (pv 2) pa_nil)) pa_nil)) (pa_cons (pv 3) pa_nil)))) pa_nil)) pa_nil)) (by rfl))
      (pss_cons (ps_while PassesOwn.never (pt_cmpR (op_neE hu64) (pv 5) (pe_lst pa_nil) (nomark _))
        (pss_cons (ps_expr (pe_bm PySem.F.plainAttrs_list PySem.F.slot_list_append PySem.F.type_list_append mt_append (pv 4) (pa_cons (pe_bm0 PySem.F.plainAttrs_list PySem.F.slot_list_pop PySem.F.type_list_pop mt_pop (pv 5)) pa_nil)))
        (pss_one (ps_expr (pe_bm PySem.F.plainAttrs_list PySem.F.slot_list_extend PySem.F.type_list_extend mt_extend (pv 5) (pa_cons (pe_revL (pe_ok (ok_Linner T) hr (by decide) (by rfl) (pa_cons (pv 0) (pa_cons (pe_ix ix_tup (pe_ix ix_list (pv 4) (pe_un un_neg pe_int) (fun _ _ => rfl)) pe_int (fun _ _ => rfl)) (pa_cons (pe_ix ix_tup (pe_ix ix_list (pv 4) (pe_un un_neg pe_int) (fun _ _ => rfl)) pe_int (fun _ _ => rfl)) pa_nil))) pass0)) pa_nil))))))
      (pss_one (ps_ret (pv 4))))), ?_⟩
    obtain ⟨pa, po, pvs, rfl, hpa, hpo, hps⟩ := dp.invL
    have hpl : pvs.length = ps.length := by rw [hps.len, List.length_map]
    obtain ⟨as, rfl, hpair⟩ := pairs_at hps
    refine ⟨lz 0, fun F nF => ?_⟩
    generalize hE : upd _ F _ = H1
    obtain ⟨s1, e1⟩ := mk hE nF
    refine ⟨_, rfl, _, rfl, pa, _, rfl, .inr (.inl (.inr ⟨_, s1 _ _ hpa⟩)), fun L nL => ?_⟩
    generalize hE : upd _ L _ = H2
    obtain ⟨s2, e2⟩ := mk hE nL
    refine ⟨L, as, ps.map kvOf, rfl, .inl (.inl e2), Paired.mapP hpair fun _ _ hh => sqT_same hh (s1.trans s2), fun D nD => ?_⟩
    have hkl : (mergeK [] (ps.map kvOf)).length ≤ ps.length := by
      have := length_mergeK (ps.map kvOf) []
      rw [List.length_map, List.length_nil] at this
      omega
    have hkE := KvE.dict ps
    generalize mergeK [] (ps.map kvOf) = kv at hkl hkE
    generalize hE : upd _ D _ = H3
    obtain ⟨s3, e3⟩ := mk hE nD
    refine ⟨_, rfl, lz 3, fun pt hpt => ?_⟩
    generalize hE : upd _ pt _ = H4
    obtain ⟨s4, e4⟩ := mk hE hpt
    refine ⟨lz 1, fun Lf nLf => ⟨_, _, rfl, ?_⟩⟩
    generalize hE : upd _ Lf _ = H5
    obtain ⟨s5, e5⟩ := mk hE nLf
    have s05 : Same H H5 := s1.trans (s2.trans (s3.trans (s4.trans s5)))
    have nLfH : H Lf = none := Same.free (s1.trans (s2.trans (s3.trans s4))) nLf
    have nFL : F ≠ Lf := ne_of_none ((s2.trans (s3.trans s4)) _ _ e1) nLf
    generalize hroot : ((t, envL ps, k) : Entry) = root at hG q
    have hpre : (pre (langT Tg hs) root).length ≤ 1000 := by
      rw [pre_len hG, ← hroot]
      exact hsz
    have ent0 : Ent K H5 (.ref pt) root := by
      rw [← hroot]
      exact ⟨pt, tv, D, kv, rfl, s5 _ _ e4, dt.mono (tk s05), (s4.trans s5) _ _ e3, hkE, by show kv.length + 2 * t.dep ≤ 200; omega⟩
    refine ⟨fun m σ H' => ∃ done ts fv lv, m = (ts.flatMap (pre (langT Tg hs))).length ∧ σ = [some rv, some tv, some (.ref pa), some (.str k), some (.ref F), some (.ref Lf)] ∧ Same H H' ∧ H' F = some (.lst fv) ∧ H' Lf = some (.lst lv) ∧ Ents K H' fv done ∧ Ents K H' lv ts.reverse ∧ pre (langT Tg hs) root = done ++ ts.flatMap (pre (langT Tg hs)) ∧ ∀ x ∈ ts, Good (langT Tg hs) x, ⟨_, [], [root], [], [.ref pt], rfl, rfl, s05, (s2.trans (s3.trans (s4.trans s5))) _ _ e1, e5, .nil, .cons ent0 .nil, by simp, fun x hx => by rw [List.mem_singleton] at hx; rw [hx]; exact hG⟩, ?_⟩
    rintro m σ Ha ⟨done, ts, fv, lv, rfl, rfl, sa, eF, eL, tF, tL, hpp, hgd⟩
    have hlv : lv.length = ts.length := by rw [Paired.length tL, List.length_reverse]
    refine ⟨_, rfl, lz 0, fun E nE => ?_⟩
    generalize hE : upd _ E _ = Hb
    obtain ⟨sb, eE⟩ := mk hE nE
    have eFb := sb _ _ eF
    have eLb := sb _ _ eL
    refine ⟨Lf, E, lv, rfl, rfl, eLb, eE, _, rfl, ?_⟩
    cases ts with
    | nil =>
      rw [decide_eq_false (by rw [hlv]; exact Nat.lt_irrefl _), if_neg Bool.false_ne_true]
      rw [List.flatMap_nil, List.append_nil] at hpp
      exact ⟨_, rfl, q F Hb fv (sa.trans sb) nF eFb (by rw [hpp]; exact tF.same sb)⟩
    | cons e rest =>
      rw [decide_eq_true (by rw [hlv]; exact Nat.succ_pos _), if_pos rfl]
      rw [List.reverse_cons] at tL
      obtain ⟨lv', v, rfl, tL', hE0⟩ := tL.last
      have hge := hgd e List.mem_cons_self
      have hit := hge.isT
      have hrl := flat_len (langT Tg hs) rest
      have hfl : fv.length ≤ 1000 ∧ lv'.length ≤ 1000 := by
        have h1 := Paired.length tF
        have h2 := Paired.length tL'
        rw [List.length_reverse] at h2
        rw [hpp, List.length_append, List.flatMap_cons, List.length_append] at hpre
        omega
      refine ⟨_, fun σ' H' h => h, ?_⟩
      refine ⟨_, rfl, .inl ⟨rfl, _, .inl (.inl eFb)⟩, _, rfl, .inl ⟨rfl, _, .inl (.inl eLb)⟩, Lf, _, v, rfl, rfl, eLb, by simp, ?_⟩
      rw [List.dropLast_concat]
      generalize hE : upd Hb Lf _ = Hc
      have eLc : Hc Lf = some (.lst lv') := by rw [← hE]; exact upd_same
      have oc : ∀ c, c ≠ Lf → Hc c = Hb c := fun c h => by rw [← hE, upd_ne h]
      have eFc : Hc F = some (.lst fv) := by rw [oc _ nFL]; exact eFb
      refine ⟨F, fv, v, rfl, rfl, eFc, lzl (by omega), ?_⟩
      generalize hE' : upd Hc F _ = Hd
      have eFd : Hd F = some (.lst (fv ++ [v])) := by rw [← hE']; exact upd_same
      have od : ∀ c, c ≠ F → Hd c = Hc c := fun c h => by rw [← hE', upd_ne h]
      have eLd : Hd Lf = some (.lst lv') := by rw [od _ nFL.symm]; exact eLc
      have kbc : TupK Hb Hc := by rw [← hE]; exact TupK.put (TupK.refl _) eLb rfl
      have kcd : TupK Hc Hd := by rw [← hE']; exact TupK.put (TupK.refl _) eFc rfl
      have sd : Same H Hd := by
        rw [← hE', ← hE]
        exact smut (smut (sa.trans sb) nLfH) nF
      have mov : ∀ {vs : List V} {xs : List Entry}, Ents K Ha vs xs → Ents K Hd vs xs := fun h => ((h.same sb).mut eLb kbc oc).mut eFc kcd od
      have tFd := mov tF
      have tLd := mov tL'
      have hEd : Ent K Hd v e := by
        have := mov (.cons hE0 .nil : Ents K Ha [v] [e])
        cases this with
        | cons h _ => exact h
      clear hE hE' mov
      have hEd' := hEd
      obtain ⟨a', tv', d', kv', rfl, g1, g2, g3, g4, g5⟩ := hEd'
      refine ⟨_, rfl, .inl ⟨rfl, _, .inl (.inl eLd)⟩, _, rfl, _, rfl, _, rfl, F, _, _, .ref a', rfl, rfl, .inl (.inl eFd), atI_last _ _, a', _, 0, tv', rfl, rfl, .inl (.inl g1), rfl, _, rfl, _, rfl, F, _, _, .ref a', rfl, rfl, .inl (.inl eFd), atI_last _ _, a', _, 1, .ref d', rfl, rfl, .inl (.inl g1), rfl, rv, tv', d', kv', Tg, hs, e.1, e.2.1, e.2.2, rfl, hR.same sd, g2, g3, g4, g5, hit, hge.ok, fun p He ws se np ep tp => ⟨p, ws, rfl, .inl (.inl ep), fun r2 hr2 => ?_⟩⟩
      generalize hE : upd _ r2 _ = Hf
      obtain ⟨sf, ef⟩ := mk hE hr2
      clear hE
      have sdf := se.trans sf
      have eLf := sdf _ _ eLd
      have hws : ws.length ≤ 1000 := by
        have h1 := Paired.length tp
        have h2 := flat_len (langT Tg hs) (inner (langT Tg hs) e)
        have h3 : (pre (langT Tg hs) e).length ≤ 1000 := by
          rw [hpp, List.length_append, List.flatMap_cons, List.length_append] at hpre
          omega
        rw [pre_eq, List.length_cons] at h3
        have h4 : inner (langT Tg hs) (e.1, e.2.1, e.2.2) = inner (langT Tg hs) e := rfl
        rw [h4] at h1
        omega
      refine ⟨Lf, r2, lv', ws.reverse, rfl, rfl, eLf, ef, lz _ (by rw [List.length_reverse]; omega), ?_⟩
      generalize hE : upd Hf Lf _ = Hg
      have eLg : Hg Lf = some (.lst (lv' ++ ws.reverse)) := by rw [← hE]; exact upd_same
      have og : ∀ c, c ≠ Lf → Hg c = Hf c := fun c h => by rw [← hE, upd_ne h]
      have kfg : TupK Hf Hg := by rw [← hE]; exact TupK.put (TupK.refl _) eLf rfl
      have sg : Same H Hg := by
        rw [← hE]
        exact smut (sd.trans sdf) nLfH
      clear hE
      refine ⟨_, ?_, done ++ [e], inner (langT Tg hs) e ++ rest, fv ++ [.ref a'], lv' ++ ws.reverse, rfl, rfl, sg, ?_, eLg, ?_, ?_, ?_, ?_⟩
      · rw [List.flatMap_append, List.flatMap_cons, pre_eq (langT Tg hs) e]
        simp only [List.length_append, List.length_cons]
        omega
      · rw [og _ nFL]
        exact sdf _ _ eFd
      · exact (Ents.app (tFd.same sdf) (.cons (hEd.same sdf) .nil)).mut eLf kfg og
      · rw [List.reverse_append]
        exact (Ents.app (tLd.same sdf) (Ents.rev (tp.same sf))).mut eLf kfg og
      · rw [hpp, List.flatMap_cons, pre_eq (langT Tg hs) e, List.flatMap_append]
        simp only [List.append_assoc, List.cons_append, List.nil_append]
      · intro x hx
        rcases List.mem_append.mp hx with hx | hx
        · exact hge.sub hx
        · exact hgd x (List.mem_cons_of_mem _ hx)
end K27

set_option maxHeartbeats 8000000
namespace K27
open PySem PySem.Spec PyProof.Rows L2
variable {P : Program} {w : World} {K : PySem.W.Frag} {mg : Str → Option Value} {base : Heap}
/-! ### the program's own: an item of a tower, a tongue -/
def spItemOf (K : PySem.W.Frag) : Sp := fun vs H Q _ => ∃ (v : V) (x : Str) (tw : List It) (it : It), vs = [v, .str x] ∧ Td K H v (.tuple (tw.map It.data)) ∧ tw.find? (fun it => decide (it.name = x)) = some it ∧
  ∀ r H', Same H H' → Td K H' r it.data → Q r H'
abbrev N_item_of : List Str := ["tower", "name", "item"]
theorem sc_item_of : FnScope N_item_of ["tower", "name"] (defScope s_item_of) := ⟨rfl, rfl, rfl, by decide +kernel, rfl, by decide +kernel, by decide +kernel⟩
theorem ok_item_of (T : TX K mg) : Ok P w K mg base CX0 1 "item_of" ["tower", "name"] (spItemOf K) := by
  refine Ok.mk' T T.m_item_of T.f_item_of sc_item_of (fun vs H Q E h => ?_) (fun _ _ _ _ _ _ us hl => match us, hl with | [_, _], _ => rfl) (fun cdv A outer s H vs Q E hr h => ?_)
  · obtain ⟨v, x, tw, it, rfl, _⟩ := h
    rfl
  · obtain ⟨v, x, tw, it0, rfl, dv, hf, q⟩ := h
    refine ⟨_, (pss_cons (ps_for PassesOwn.never rfl (pi_tup (pv 0)) (pg_name (i := 2) sc_item_of.nd rfl (.inl rfl))
        (pss_one (ps_if (pt_cmpR op_eq (pe_ix ix_tup (pv 2) pe_int (fun _ _ => rfl)) (pv 1) (nomark _))
          (pss_one (ps_ret (pv 2)))
          pss_nil)))
      (pss_one (ps_ret pe_non))), ?_⟩
    obtain ⟨a, xs, rfl, hT, hts⟩ := dv.inv
    have hlen : xs.length = tw.length := by rw [hts.len, List.length_map]
    refine ⟨_, rfl, a, rfl, ⟨_, hT.sq⟩, for_it (walk_tup (K := K) (a := a) (xs := xs)) (fun i σ H' => ∃ y2, σ = [some (.ref a), some (.str x), y2] ∧ Same H H' ∧ ∀ it ∈ tw.take i, it.name ≠ x)
      ⟨none, rfl, Same.refl H, fun _ h => by simp at h⟩ (fun i σ H' _ hP => ?_) (fun i y σ Ha Hb hi hP hY => ?_) (fun σ Ha hP => ?_)⟩
    · obtain ⟨_, _, sm, _⟩ := hP
      exact (hT.mono (tk sm)).sq
    · obtain ⟨y2, rfl, sm, hn⟩ := hP
      obtain ⟨rfl, hx⟩ := hY
      obtain ⟨dd, hdd, dx⟩ := (hts.mono (tk sm)).getV hx
      obtain ⟨it, hit, rfl⟩ := map_at hdd
      obtain ⟨b, ys, v3, rfl, hS, f0, f1, f2, f3, d3⟩ := It.fields dx
      refine ⟨_, rfl, b, ys, _, _, rfl, rfl, hS, at_of (j := 1) rfl f1, _, rfl, rfl, _, rfl, ?_⟩
      rw [decV]
      by_cases h : it.name = x
      · refine ifT (decide_eq_true h) ⟨_, rfl, ?_⟩
        have e : it = it0 := by
          have h1 : tw = tw.take i ++ it :: tw.drop (i + 1) := by
            obtain ⟨hl, he⟩ := List.getElem?_eq_some_iff.mp hit
            have h2 := List.take_append_drop i tw
            rw [List.drop_eq_getElem_cons hl, he] at h2
            exact h2.symm
          rw [h1, List.find?_append, List.find?_eq_none.mpr (fun z hz hp => hn z hz (of_decide_eq_true hp)), List.find?_cons, decide_eq_true h] at hf
          exact Option.some.inj hf
        subst e
        exact q _ _ sm dx
      · refine ifF (decide_eq_false h) ⟨_, rfl, sm, fun z hz => ?_⟩
        rw [take_succ' hit] at hz
        rcases List.mem_append.mp hz with hz | hz
        · exact hn z hz
        · rw [List.mem_singleton] at hz
          rw [hz]
          exact h
    · obtain ⟨y2, rfl, sm, hn⟩ := hP
      rw [List.take_of_length_le (by omega)] at hn
      exact absurd (by simpa using List.find?_some hf) (hn _ (List.mem_of_find?_eq_some hf))
def spTongueOf (K : PySem.W.Frag) : Sp := fun vs H Q _ => ∃ (v : V) (x : Str) (tw : List It), vs = [v, .str x] ∧ Td K H v (.tuple (tw.map It.data)) ∧ TwOk tw ∧ OwnOk tw x ∧
  ∀ r H', Same H H' → Td K H' r (tongueOf tw x).data → Q r H'
theorem tongue_here {tw : List It} (h : TwOk tw) {x : Str} (ho : OwnOk tw x) (hx : x ≠ "ground") : ∃ t, tw.find? (fun it => decide (it.name = x)) = some (.tong t) ∧ tongueOf tw x = t := by
  rcases ho with rfl | ⟨t, ht, rfl⟩
  · exact absurd rfl hx
  · refine ⟨t, find_nodup (f := It.name) h.nd ht, ?_⟩
    unfold tongueOf
    have h1 : tw.find? (isTong t.name) = some (.tong t) := by
      have h2 := find_nodup (f := It.name) h.nd ht
      cases hf : tw.find? (isTong t.name) with
      | none => exact absurd (decide_eq_true rfl) (List.find?_eq_none.mp hf _ ht)
      | some it =>
        obtain ⟨t', rfl, e⟩ := isTong_spec (List.find?_some hf)
        have h3 := find_nodup (f := It.name) h.nd (List.mem_of_find?_eq_some hf)
        have e' : It.name (.tong t') = It.name (.tong t) := e
        rw [e', h2] at h3
        rw [h3]
    rw [h1]
    rfl
abbrev N_tongue_of : List Str := ["tower", "name"]
theorem sc_tongue_of : FnScope N_tongue_of ["tower", "name"] (defScope s_tongue_of) := ⟨rfl, rfl, rfl, by decide +kernel, rfl, by decide +kernel, by decide +kernel⟩
theorem ok_tongue_of (T : TX K mg) : Ok P w K mg base CX0 2 "tongue_of" ["tower", "name"] (spTongueOf K) := by
  refine Ok.mk' T T.m_tongue_of T.f_tongue_of sc_tongue_of (fun vs H Q E h => ?_) (fun _ _ _ _ _ _ us hl => match us, hl with | [_, _], _ => rfl) (fun cdv A outer s H vs Q E hr h => ?_)
  · obtain ⟨v, x, tw, rfl, _⟩ := h
    rfl
  · obtain ⟨v, x, tw, rfl, dv, htw, ho, q⟩ := h
    refine ⟨_, (pss_cons (ps_if (pt_cmpR op_eq (pv 1) pe_str (nomark _))
        (pss_one (ps_ret (pe_glob (v := .ref (He.ga K "GROUND")) (by rfl) T.m_GROUND rfl)))
        pss_nil)
      (pss_one (ps_ret (pe_ok (ok_item_of T) hr (by decide) (by rfl) (pa_cons (pv 0) (pa_cons (pv 1) pa_nil)) pass0)))), ?_⟩
    refine ⟨_, rfl, rfl, _, rfl, ?_⟩
    rw [decV]
    by_cases h : x = "ground"
    · refine ifT (decide_eq_true h) ?_
      subst h
      have e : tongueOf tw "ground" = groundT := by
        unfold tongueOf
        have hn : tw.find? (isTong "ground") = none := by
          refine List.find?_eq_none.mpr fun it hit hp => ?_
          obtain ⟨t, rfl, e⟩ := isTong_spec hp
          exact (htw.nm _ hit).2 e
        rw [hn]
      exact q _ _ (Same.refl H) (by rw [e]; exact T.ground H)
    · refine ifF (decide_eq_false h) ?_
      obtain ⟨t, ht, e⟩ := tongue_here htw ho h
      exact ⟨_, rfl, _, rfl, v, x, tw, .tong t, rfl, dv, ht, fun r H' sm d => q r H' sm (by rw [e]; exact d)⟩
end K27

set_option maxHeartbeats 8000000
namespace K27
open PySem PySem.Spec PyProof.Rows L2
variable {P : Program} {w : World} {K : PySem.W.Frag} {mg : Str → Option Value} {base : Heap}
/-! ### the heads of all parts, each with the tongue that it is over -/
def ownHead (p : Part) (r : Row) : Str × Hd := (p.own, rowHead p r)
def allIn : It → List (Str × Hd)
  | .tong _ => []
  | .part p => p.rows.map (ownHead p)
def allHeads (tw : List It) : List (Str × Hd) := tw.flatMap allIn
def ownD (q : Str × Hd) : PyData := .tuple [.str q.1, .tuple (q.2.2.1.map .str), .str q.2.2.2]
theorem all_mem {tw : List It} {q : Str × Hd} (hm : q ∈ allHeads tw) : ∃ p r, It.part p ∈ tw ∧ r ∈ p.rows ∧ q = ownHead p r := by
  unfold allHeads at hm
  obtain ⟨it, hit, hh⟩ := List.mem_flatMap.mp hm
  cases it with
  | tong t => cases hh
  | part p =>
    obtain ⟨r, hr, rfl⟩ := List.mem_map.mp (show q ∈ p.rows.map (ownHead p) from hh)
    exact ⟨p, r, hit, hr, rfl⟩
theorem all_nodup : ∀ {tw : List It}, (tw.map It.name).Nodup → (∀ it ∈ tw, Nm it.name) → (∀ p, It.part p ∈ tw → (p.rows.map (·.name)).Nodup ∧ ∀ r ∈ p.rows, isNm r.name = true) → ((allHeads tw).map (·.2.1)).Nodup
  | [], _, _, _ => List.nodup_nil
  | it :: tw, h1, h2, h3 => by
    rw [List.map_cons, List.nodup_cons] at h1
    have ih := all_nodup h1.2 (fun i hi => h2 i (List.mem_cons_of_mem _ hi)) fun p hp => h3 p (List.mem_cons_of_mem _ hp)
    have e : allHeads (it :: tw) = allIn it ++ allHeads tw := by
      unfold allHeads
      rw [List.flatMap_cons]
    rw [e, List.map_append, List.nodup_append]
    cases it with
    | tong t => exact ⟨List.nodup_nil, ih, fun a ha => nomatch ha⟩
    | part p =>
      obtain ⟨k1, k2⟩ := h3 p List.mem_cons_self
      have hpn := isNm_low (h2 _ List.mem_cons_self).1
      have eh : allIn (.part p) = p.rows.map (ownHead p) := rfl
      rw [eh, List.map_map]
      refine ⟨?_, ih, fun a ha c hc e => ?_⟩
      · refine List.pairwise_map.mpr ((List.pairwise_map.mp k1).imp_of_mem fun {r s} hr hs ne e => ne ?_)
        exact (dot_inj hpn hpn (isNm_low (k2 r hr)) (isNm_low (k2 s hs)) e).2
      · obtain ⟨r, hr, rfl⟩ := List.mem_map.mp ha
        obtain ⟨h, hh, rfl⟩ := List.mem_map.mp hc
        obtain ⟨p', r', hp', hr', rfl⟩ := all_mem hh
        have hp'n := isNm_low (h2 _ (List.mem_cons_of_mem _ hp')).1
        have hr'n := isNm_low ((h3 p' (List.mem_cons_of_mem _ hp')).2 r' hr')
        have := (dot_inj hpn hp'n (isNm_low (k2 r hr)) hr'n e).1
        exact h1.1 (List.mem_map.mpr ⟨_, hp', this.symm⟩)
theorem all_own (tw : List It) (own : Str) : headsOf tw own = ((allHeads tw).filter fun q => decide (q.1 = own)).map (·.2) := by
  unfold headsOf allHeads
  induction tw with
  | nil => rfl
  | cons it tw ih =>
    rw [List.flatMap_cons, List.flatMap_cons, List.filter_append, List.map_append, ← ih]
    congr 1
    cases it with
    | tong t => rfl
    | part p =>
      show (if p.own = own then p.rows.map (rowHead p) else []) = ((p.rows.map (ownHead p)).filter fun q => decide (q.1 = own)).map (·.2)
      rw [List.filter_map, List.map_map]
      by_cases h : p.own = own
      · rw [if_pos h, List.filter_eq_self.mpr (fun r _ => by show decide (p.own = own) = true; exact decide_eq_true h)]
        rfl
      · rw [if_neg h, List.filter_eq_nil_iff.mpr (fun r _ => by show ¬ decide (p.own = own) = true; rw [decide_eq_false h]; exact Bool.false_ne_true)]
        rfl
theorem all_len {tw : List It} (h : ∀ p, It.part p ∈ tw → p.rows.length ≤ 4) : (allHeads tw).length ≤ 4 * tw.length := by
  induction tw with
  | nil => exact Nat.le_refl _
  | cons it tw ih =>
    have e : allHeads (it :: tw) = allIn it ++ allHeads tw := by
      unfold allHeads
      rw [List.flatMap_cons]
    rw [e, List.length_append, List.length_cons]
    have h1 := ih fun p hp => h p (List.mem_cons_of_mem _ hp)
    have h2 : (allIn it).length ≤ 4 := by
      cases it with
      | tong t => exact Nat.zero_le _
      | part p =>
        show (p.rows.map (ownHead p)).length ≤ 4
        rw [List.length_map]
        exact h p List.mem_cons_self
    omega
theorem str_empty_app (x : Str) : Str.empty ++ x = x := by
  show Str.mk (#[] ++ x.cps) = x
  rw [Array.empty_append]
theorem putK_new {kvs : List (Key × V)} {k : Key} {v : V} (h : k ∉ kvs.map (·.1)) : putK kvs k v = kvs ++ [(k, v)] := by
  unfold putK
  rw [if_neg]
  intro hn
  obtain ⟨p, hp, e⟩ := List.any_eq_true.mp hn
  exact h (List.mem_map.mpr ⟨p, hp, of_decide_eq_true e⟩)
structure HKv (K : PySem.W.Frag) (H : Hp) (kvs : List (Key × V)) (l : List (Str × Hd)) : Prop where
  keys : kvs.map (·.1) = l.map fun q => (.inr q.2.1 : Key)
  vals : Tds K H (kvs.map (·.2)) (l.map ownD)
theorem HKv.mono {H H' : Hp} {kvs : List (Key × V)} {l : List (Str × Hd)} (h : HKv K H kvs l) (k : TupK H H') : HKv K H' kvs l := ⟨h.keys, h.vals.mono k⟩
theorem HKv.snoc {H : Hp} {kvs : List (Key × V)} {l : List (Str × Hd)} (h : HKv K H kvs l) {q : Str × Hd} {v : V} (hv : Td K H v (ownD q)) (hn : q.2.1 ∉ l.map (·.2.1)) : HKv K H (putK kvs (.inr q.2.1) v) (l ++ [q]) := by
  have e : putK kvs (.inr q.2.1) v = kvs ++ [(.inr q.2.1, v)] := putK_new (by
    rw [h.keys]
    intro hm
    obtain ⟨z, hz, e⟩ := List.mem_map.mp hm
    exact hn (List.mem_map.mpr ⟨z, hz, Sum.inr.inj e⟩))
  rw [e]
  exact ⟨by rw [List.map_append, List.map_append, h.keys]; rfl, by rw [List.map_append, List.map_append]; exact h.vals.snoc hv⟩
theorem HKv.len {H : Hp} {kvs : List (Key × V)} {l : List (Str × Hd)} (h : HKv K H kvs l) : kvs.length = l.length := by
  have := congrArg List.length h.keys
  simpa using this
def spHeadsOf (K : PySem.W.Frag) : Sp := fun vs H Q _ => ∃ (v : V) (tw : List It), vs = [v] ∧ Td K H v (.tuple (tw.map It.data)) ∧ TwOk tw ∧
  ∀ p H' kvs, Same H H' → H p = none → H' p = some (.dK kvs) → HKv K H' kvs (allHeads tw) → Q (.ref p) H'
abbrev N_heads_of : List Str := ["tower", "found", "item", "name", "params", "kind", "body", "kinds", "x", "own"]
theorem sc_heads_of : FnScope N_heads_of ["tower"] (defScope s_heads_of) := ⟨rfl, rfl, rfl, by decide +kernel, rfl, by decide +kernel, by decide +kernel⟩
theorem ok_heads_of (T : TX K mg) : Ok P w K mg base CX0 1 "heads_of" ["tower"] (spHeadsOf K) := by
  refine Ok.mk' T T.m_heads_of T.f_heads_of sc_heads_of (fun vs H Q E h => ?_) (fun _ _ _ _ _ _ us hl => match us, hl with | [_], _ => rfl) (fun cdv A outer s H vs Q E hr h => ?_)
  · obtain ⟨v, tw, rfl, _⟩ := h
    rfl
  · obtain ⟨v, tw, rfl, dv, htw, q⟩ := h
    have hu := hu_of hr
    refine ⟨_, (pss_cons (ps_set (i := 1) sc_heads_of.nd rfl (Or.inl rfl) pe_dnewK)
      (pss_cons (ps_for PassesOwn.never rfl (pi_tup (pv 0)) (pg_name (i := 2) sc_heads_of.nd rfl (.inl rfl))
        (pss_cons (ps_if (pt_cmpR op_eq (pe_ix ix_tup (pv 2) pe_int (fun _ _ => rfl)) pe_str (nomark _))
          (pss_one (ps_for PassesOwn.never rfl (pi_tup (pe_ix ix_tup (pv 2) pe_int (fun _ _ => rfl))) (pg_tup rfl (pgs_cons (pg_name (i := 3) sc_heads_of.nd rfl (.inl rfl)) (pgs_cons (pg_name (i := 4) sc_heads_of.nd rfl (.inl rfl)) (pgs_cons (pg_name (i := 5) sc_heads_of.nd rfl (.inl rfl)) (pgs_cons (pg_name (i := 6) sc_heads_of.nd rfl (.inl rfl)) pgs_nil)))))
            (pss_one (ps_dput hu (pv 1) (pe_joined (.cons (pe_fmt (pe_ix ix_tup (pv 2) pe_int (fun _ _ => rfl))) (.cons pe_str (.cons (pe_fmt (pv 3)) .nil)))) (pe_tup (pa_cons (pe_ix ix_tup (pv 2) pe_int (fun _ _ => rfl)) (pa_cons (pe_callTy (call_tupU (K := K)) (by rfl) T.n_tuple (by decide +kernel) (pa_cons (pe_lc (own := [("x", 8), ("own", 9)]) (g := gTup K 2 (gCons (gName 8) (gCons (gName 9) gNil))) (tt := tYes) (by rfl) sc_heads_of.nd (pi_tup (pv 4)) (blkOk_by (own := [("x", 8), ("own", 9)]) (N := N_heads_of) (sc := defScope s_heads_of) (by decide +kernel)) (fun _ _ _ _ _ => (pg_tup rfl (pgs_cons (pg_name (i := 8) sc_heads_of.nd rfl (Or.inl rfl)) (pgs_cons (pg_name (i := 9) sc_heads_of.nd rfl (Or.inl rfl)) pgs_nil)))) (fun _ _ _ _ _ => pts_nil) (fun _ _ _ _ _ => (pv 9))) pa_nil)) (pa_cons (pv 5) pa_nil)))) rfl))))
          pss_nil)
        (pss_one (ps_if (pt_cmpR op_eq (pe_ix ix_tup (pv 2) pe_int (fun _ _ => rfl)) pe_str (nomark _))
          (pss_one (ps_for PassesOwn.never rfl (pi_tup (pe_ix ix_tup (pv 2) pe_int (fun _ _ => rfl))) (pg_tup rfl (pgs_cons (pg_name (i := 3) sc_heads_of.nd rfl (.inl rfl)) (pgs_cons (pg_name (i := 7) sc_heads_of.nd rfl (.inl rfl)) (pgs_cons (pg_name (i := 5) sc_heads_of.nd rfl (.inl rfl)) pgs_nil))))
            (pss_one (ps_dput hu (pv 1) (pe_joined (.cons (pe_fmt (pe_ix ix_tup (pv 2) pe_int (fun _ _ => rfl))) (.cons pe_str (.cons (pe_fmt (pv 3)) .nil)))) (pe_tup (pa_cons (pe_ix ix_tup (pv 2) pe_int (fun _ _ => rfl)) (pa_cons (pv 7) (pa_cons (pv 5) pa_nil)))) rfl))))
          pss_nil))))
      (pss_one (ps_ret (pv 1))))), ?_⟩
    obtain ⟨a, xs, rfl, hT, hts⟩ := dv.inv
    have hlen : xs.length = tw.length := by rw [hts.len, List.length_map]
    have hnd := all_nodup htw.nd htw.nm fun p hp => ⟨(htw.part p hp).nd, fun r hr => ((htw.part p hp).rows r hr).nm⟩
    have hal := all_len fun p hp => (htw.part p hp).len
    have h20 := htw.len
    have split : ∀ i, allHeads tw = allHeads (tw.take i) ++ allHeads (tw.drop i) := fun i => by
      unfold allHeads
      rw [← List.flatMap_append, List.take_append_drop]
    refine fun D nD => ?_
    generalize hE : upd _ D _ = H1
    obtain ⟨s1, e1⟩ := mk hE nD
    clear hE
    refine ⟨_, rfl, a, rfl, ⟨_, (hT.mono (tk s1)).sq⟩, for_it (walk_tup (K := K) (a := a) (xs := xs)) (fun i σ H' => ∃ y2 y3 y4 y5 y6 y7, σ = [some (.ref a), some (.ref D), y2, y3, y4, y5, y6, y7, none, none] ∧ Same H H' ∧ ∃ kvs, H' D = some (.dK kvs) ∧ HKv K H' kvs (allHeads (tw.take i)))
      ⟨none, none, none, none, none, none, rfl, s1, [], e1, ⟨rfl, .nil⟩⟩ (fun i σ H' _ hP => ?_) (fun i y σ Hz Ha hi hP hY => ?_) (fun σ Ha hP => ?_)⟩
    · obtain ⟨_, _, _, _, _, _, _, sm, _⟩ := hP
      exact (hT.mono (tk sm)).sq
    · obtain ⟨y2, y3, y4, y5, y6, y7, rfl, sm, kvs, eD, hk⟩ := hP
      obtain ⟨rfl, hx⟩ := hY
      obtain ⟨dd, hdd, dx⟩ := (hts.mono (tk sm)).getV hx
      obtain ⟨it, hit, rfl⟩ := map_at hdd
      have keep : allHeads (tw.take (i + 1)) = allHeads (tw.take i) ++ allIn it := by
        rw [take_succ' hit]
        unfold allHeads
        rw [List.flatMap_append]
        simp
      obtain ⟨b, ys, v3, rfl, hS, f0, f1, f2, f3, d3⟩ := It.fields dx
      refine ⟨_, rfl, b, ys, _, _, rfl, rfl, hS, at_of (j := 0) rfl f0, rfl, _, rfl, ?_⟩
      rw [decV]
      cases it with
      | tong t =>
        refine ifF (show decide (("tongue" : Str) = "part") = false by decide +kernel) ⟨_, rfl, b, ys, _, _, rfl, rfl, hS, at_of (j := 0) rfl f0, rfl, _, rfl, ?_⟩
        rw [decV]
        refine ifF (show decide (("tongue" : Str) = "face") = false by decide +kernel) ⟨_, _, _, _, _, _, rfl, sm, kvs, eD, ?_⟩
        rw [keep]
        show HKv K Ha kvs (allHeads (tw.take i) ++ [])
        rw [List.append_nil]
        exact hk
      | part pt =>
        refine ifT (show decide (("part" : Str) = "part") = true by decide +kernel) ⟨_, rfl, b, ys, _, _, rfl, rfl, hS, at_of (j := 3) rfl f3, ?_⟩
        obtain ⟨c, rs, rfl, hc, hrs⟩ := Td.inv d3
        have hpo := htw.part pt (List.mem_of_getElem? hit)
        have hpn := isNm_len (htw.nm _ (List.mem_of_getElem? hit)).1
        have hpn' : pt.name.length ≤ 6 := hpn
        have hrl : rs.length = pt.rows.length := by rw [hrs.len, List.length_map]
        refine ⟨c, rfl, ⟨rs, hc.sq⟩, for_it (walk_tup (K := K) (a := c) (xs := rs)) (fun j σ H' => ∃ y3 y4 y5 y6 y7, σ = [some (.ref a), some (.ref D), some (.ref b), y3, y4, y5, y6, y7, none, none] ∧ Same H H' ∧ TupK Ha H' ∧ ∃ kvs, H' D = some (.dK kvs) ∧ HKv K H' kvs (allHeads (tw.take i) ++ (pt.rows.take j).map (ownHead pt)))
          ⟨y3, y4, y5, y6, y7, rfl, sm, TupK.refl _, kvs, eD, by simpa using hk⟩ (fun _ σ H' _ hP => ?_) (fun j z σ Hz H2 hj hP hY => ?_) (fun σ H' hP => ?_)⟩
        · obtain ⟨_, _, _, _, _, _, _, kt, _⟩ := hP
          exact (hc.mono kt).sq
        · obtain ⟨y3, y4, y5, y6, y7, rfl, sb, kt, kvs, eD, hk⟩ := hP
          obtain ⟨rfl, hz⟩ := hY
          obtain ⟨d, hd, dz⟩ := (hrs.mono kt).getV hz
          obtain ⟨r, hr', rfl⟩ := map_at hd
          have hro := hpo.rows r (List.mem_of_getElem? hr')
          have hrn := isNm_len hro.nm
          have hrp := hro.pl
          obtain ⟨f, g, o, ps, v4, rfl, hF, hg, hgd, tp, _⟩ := Row.fields dz
          have hbT : SqT K H2 b ys := sqt_mono hS kt
          refine ⟨f, _, rfl, hF.sq, rfl, _, _, rfl, _, _, rfl, _, _, rfl, _, _, rfl, rfl, _, rfl, b, ys, _, _, rfl, rfl, hbT, at_of (j := 2) rfl f2, _, rfl, g, rfl, ⟨ps, frz_sq hg⟩, fun L nL => ?_⟩
          refine lc_it (walk_tup (K := K) (a := g) (xs := ps)) (fun k H' => Same H2 H' ∧ ∃ ac, H' L = some (.lst ac) ∧ Tds K H' ac ((r.params.take k).map fun q => .str q.2)) ⟨same_new nL, [], upd_same, .nil⟩ (fun k H' _ hP => frz_sq (hP.1 _ _ hg)) (fun k z2 H3 H4 hk hP hY => ?_) (fun H3 hP => ?_)
          · obtain ⟨s3, ac, e3, t3⟩ := hP
            obtain ⟨rfl, hz2⟩ := hY
            obtain ⟨d2, hd2, dz2⟩ := (tp.mono (tk s3)).getV hz2
            obtain ⟨q0, hq0, rfl⟩ := map_at hd2
            obtain ⟨e, w1, w2, rfl, hT, k1, k2⟩ := Td.i2 dz2
            obtain rfl := k1.strI
            obtain rfl := k2.strI
            refine ⟨e, _, rfl, hT.sq, rfl, _, _, rfl, _, _, rfl, rfl, rfl, _, rfl, ac, e3, ?_, smut s3 nL, _, upd_same, ?_⟩
            · rw [t3.len, List.length_map, List.length_take]
              exact lzl (by omega)
            · rw [take_succ' hq0, List.map_append]
              exact Tds.mono (TupK.put (TupK.refl _) e3 rfl) (t3.snoc (.str _))
          · obtain ⟨s3, ac, e3, t3⟩ := hP
            rw [List.take_of_length_le (by rw [tp.len, List.length_map]; exact Nat.le_refl _)] at t3
            refine ⟨L, _, rfl, .inl e3, fun p H4 s4 hp => ⟨_, rfl, lz 3, fun p5 hp5 => ?_⟩⟩
            generalize hE : upd _ p5 _ = H5
            obtain ⟨s5, e5⟩ := mk hE hp5
            have s25 := s3.trans (s4.trans s5)
            have eD5 := s25 _ _ eD
            have hb5 : SqT K H5 b ys := sqt_mono hbT (tk s25)
            have hnew : (ownHead pt r).2.1 ∉ (allHeads (tw.take i) ++ (pt.rows.take j).map (ownHead pt)).map (·.2.1) := by
              have h1 := hnd
              rw [split (i + 1), keep] at h1
              have h2 : allIn (.part pt) = (pt.rows.take j).map (ownHead pt) ++ ownHead pt r :: (pt.rows.drop (j + 1)).map (ownHead pt) := by
                show pt.rows.map (ownHead pt) = _
                obtain ⟨hl, he⟩ := List.getElem?_eq_some_iff.mp hr'
                have h3 := List.take_append_drop j pt.rows
                rw [List.drop_eq_getElem_cons hl, he] at h3
                conv => lhs; rw [← h3]
                rw [List.map_append, List.map_cons]
              rw [h2] at h1
              intro hm
              simp only [List.map_append, List.map_cons, List.append_assoc] at h1 hm
              rw [← List.append_assoc] at h1
              have h4 := List.nodup_append.mp h1
              exact h4.2.2 _ hm _ List.mem_cons_self rfl
            have hkl := hk.len
            have hle : (allHeads (tw.take i) ++ (pt.rows.take j).map (ownHead pt)).length ≤ 80 := by
              have h1 := congrArg List.length (split (i + 1))
              rw [keep, List.length_append, List.length_append] at h1
              have h2 : (allIn (.part pt)).length = pt.rows.length := by
                show (pt.rows.map (ownHead pt)).length = _
                rw [List.length_map]
              rw [List.length_append, List.length_map, List.length_take]
              omega
            refine ⟨_, rfl, _, rfl, b, ys, _, _, rfl, rfl, hb5, at_of (j := 1) rfl f1, .inl ⟨pt.name, rfl, lz _ (by omega), pt.name, rfl, ?_, ".", rfl, ?_, _, rfl, .inl ⟨r.name, rfl, lz _ (by omega), r.name, rfl, ?_, ?_⟩⟩⟩
            · rw [str_empty_app]
              exact lz _ (by omega)
            · rw [str_empty_app, str_app_len]
              exact lz _ (by show pt.name.length + 1 ≤ 100000; omega)
            · rw [str_empty_app, str_app_len, str_app_len]
              exact lz _ (by show pt.name.length + 1 + r.name.length ≤ 100000; omega)
            rw [str_empty_app]
            refine ⟨D, _, rfl, DPut.k (k := .inr (ownHead pt r).2.1) eD5 (lzl (by omega)), _, _, _, _, _, rfl, smut (sb.trans s25) nD, TupK.trans kt (TupK.put (tk s25) eD rfl), _, upd_same, ?_⟩
            have hv : Td K H5 (.ref p5) (ownD (ownHead pt r)) := by
              refine .at e5 (.cons (.str _) (.cons (.tup (hp.mono (tk s5)) ?_) (.cons (.str _) .nil)))
              have e : (r.params.map fun q => q.2).map PyData.str = r.params.map fun q => .str q.2 := by rw [List.map_map]; rfl
              show Tds K H5 ac ((r.params.map fun q => q.2).map PyData.str)
              rw [e]
              exact t3.mono (tk (s4.trans s5))
            have h6 := (hk.mono (tk s25)).snoc hv hnew
            rw [take_succ' hr', List.map_append, ← List.append_assoc]
            exact h6.mono (TupK.put (TupK.refl _) eD5 rfl)
        · obtain ⟨y3, y4, y5, y6, y7, rfl, sb, kt, kvs, eD, hk⟩ := hP
          rw [show pt.rows.take rs.length = pt.rows from List.take_of_length_le (by omega)] at hk
          refine ⟨_, rfl, b, ys, _, _, rfl, rfl, sqt_mono hS kt, at_of (j := 0) rfl f0, rfl, _, rfl, ?_⟩
          rw [decV]
          refine ifF (show decide (("part" : Str) = "face") = false by decide +kernel) ⟨_, _, _, _, _, _, rfl, sb, kvs, eD, ?_⟩
          rw [keep]
          exact hk
    · obtain ⟨y2, y3, y4, y5, y6, y7, rfl, sm, kvs, eD, hk⟩ := hP
      rw [List.take_of_length_le (by omega)] at hk
      exact ⟨_, rfl, q D Ha kvs sm nD eD hk⟩
end K27

set_option maxHeartbeats 8000000
namespace K27
open PySem PySem.Spec PyProof.Rows L2
variable {P : Program} {w : World} {K : PySem.W.Frag} {mg : Str → Option Value} {base : Heap}
/-! ### right names -/
abbrev letS : Str := "abcdefghijklmnopqrstuvwxyz"
theorem let_mem : ∀ c : Nat, 97 ≤ c → c ≤ 122 → c ∈ letS.cps.toList := by
  intro c h1 h2
  have h : ∀ k : Fin 26, 97 + k.val ∈ letS.cps.toList := by decide +kernel
  have := h ⟨c - 97, by omega⟩
  simpa [show 97 + (c - 97) = c by omega] using this
def spMade : Sp := fun vs H Q _ => ∃ x : Str, vs = [.str x, .str letS, .int 6] ∧ isNm x = true ∧ ∀ H', Same H H' → Q (.bl true) H'
abbrev N_is_made_of : List Str := ["text", "signs", "longest", "sign"]
theorem sc_is_made_of : FnScope N_is_made_of ["text", "signs", "longest"] (defScope s_is_made_of) := ⟨rfl, rfl, rfl, by decide +kernel, rfl, by decide +kernel, by decide +kernel⟩
theorem ok_is_made_of (T : TX K mg) : Ok P w K mg base CX0 1 "is_made_of" ["text", "signs", "longest"] spMade := by
  refine Ok.mk' T T.m_is_made_of T.f_is_made_of sc_is_made_of (fun vs H Q E h => ?_) (fun _ _ _ _ _ _ us hl => match us, hl with | [_, _, _], _ => rfl) (fun cdv A outer s H vs Q E hr h => ?_)
  · obtain ⟨x, rfl, _⟩ := h
    rfl
  · obtain ⟨x, rfl, hx, q⟩ := h
    refine ⟨_, (pss_one (ps_ret (pe_and (pe_chain op_le op_le pe_int (pe_callB call_len_str (by rfl) T.n_len PySem.boot_len (pa_cons (pv 0) pa_nil)) (pv 2)) (pe_one (pe_callB (cr_all rfl) (by rfl) T.n_all (by decide +kernel) (pa_cons (pe_lc (own := [("sign", 3)]) (g := gName 3) (tt := tYes) (by rfl) sc_is_made_of.nd (pi_str (pv 0)) (blkOk_by (own := [("sign", 3)]) (N := N_is_made_of) (sc := defScope s_is_made_of) (by decide +kernel)) (fun _ _ _ _ _ => (pg_name (i := 3) sc_is_made_of.nd rfl (Or.inl rfl))) (fun _ _ _ _ _ => pts_nil) (fun _ _ _ _ _ => (pe_cmpR op_in_sign (pv 3) (pv 1) rfl))) pa_nil)))))), ?_⟩
    unfold isNm at hx
    simp only [Bool.and_eq_true, decide_eq_true_eq, List.all_eq_true] at hx
    obtain ⟨⟨h1, h2⟩, h3⟩ := hx
    have h2' : x.cps.size ≤ 6 := h2
    refine ⟨_, rfl, _, rfl, lz _ (by omega), _, _, rfl, rfl, _, rfl, ?_⟩
    rw [decide_eq_true (by omega : (1 : Int) ≤ (x.length : Int)), if_pos rfl]
    refine ⟨_, rfl, _, _, rfl, rfl, _, rfl, ?_⟩
    rw [decide_eq_true (by omega : (x.length : Int) ≤ 6), if_pos rfl]
    refine ⟨_, rfl, _, rfl, fun D nD => lc_it walk_str (fun i H' => Same H H' ∧ ∃ bs : List Bool, H' D = some (.lst (bs.map .bl)) ∧ bs.all id = true ∧ bs.length = i) ⟨same_new nD, [], upd_same, rfl, rfl⟩ (fun _ _ _ _ => trivial) (fun i y Ha Hb hi hP hY => ?_) (fun Ha hP => ?_)⟩
    · obtain ⟨sa, bs, ea, hb, hl⟩ := hP
      obtain ⟨rfl, c, hc, rfl⟩ := hY
      have hm : c ∈ letS.cps.toList := by
        obtain ⟨h4, h5⟩ := h3 c (by rw [Array.mem_toList_iff]; exact Array.mem_of_getElem? hc)
        exact let_mem c h4 h5
      refine ⟨rfl, _, rfl, _, rfl, c, letS, rfl, rfl, bs.map .bl, ea, ?_, smut sa nD, bs ++ [true], ?_, ?_, ?_⟩
      · rw [List.length_map]
        exact lzl (by omega)
      · rw [upd_same, decide_eq_true hm, List.map_append]
        rfl
      · rw [List.all_append, hb]
        rfl
      · rw [List.length_append, hl]
        rfl
    · obtain ⟨sa, bs, ea, hb, hl⟩ := hP
      refine ⟨D, bs, rfl, .inl (.inl ea), ?_⟩
      rw [hb]
      exact q Ha sa
def spIsName : Sp := fun vs H Q _ => ∃ x : Str, vs = [.str x] ∧ isNm x = true ∧ ∀ H', Same H H' → Q (.bl true) H'
abbrev N_is_name : List Str := ["text"]
theorem sc_is_name : FnScope N_is_name ["text"] (defScope s_is_name) := ⟨rfl, rfl, rfl, by decide +kernel, rfl, by decide +kernel, by decide +kernel⟩
theorem ok_is_name (T : TX K mg) : Ok P w K mg base CX0 2 "is_name" ["text"] spIsName := by
  refine Ok.mk' T T.m_is_name T.f_is_name sc_is_name (fun vs H Q E h => ?_) (fun _ _ _ _ _ _ us hl => match us, hl with | [_], _ => rfl) (fun cdv A outer s H vs Q E hr h => ?_)
  · obtain ⟨x, rfl, _⟩ := h
    rfl
  · obtain ⟨x, rfl, hx, q⟩ := h
    obtain ⟨t1, e1⟩ := T.c_LETTERS
    obtain ⟨t2, e2⟩ := T.c_LONGEST
    refine ⟨_, (pss_one (ps_ret (pe_ok (ok_is_made_of T) hr (by decide) (by rfl) (pa_cons (pv 0) (pa_cons (pe_glob (v := .str letS) (by rfl) e1 ⟨t1, rfl⟩) (pa_cons (pe_glob (v := .int 6) (by rfl) e2 ⟨t2, rfl⟩) pa_nil))) pass0))), ?_⟩
    exact ⟨_, rfl, x, rfl, hx, q⟩
/-! ### of the right sort -/
def spSort (K : PySem.W.Frag) : Sp := fun vs H Q _ => ∃ (iv tv : V) (it : Item) (t : Tm), vs = [iv, tv] ∧ Td K H iv it.data ∧ Td K H tv t.data ∧ fits (it, t) = true ∧ Q (.bl true) H
abbrev N_is_of_sort : List Str := ["item", "thing"]
theorem sc_is_of_sort : FnScope N_is_of_sort ["item", "thing"] (defScope s_is_of_sort) := ⟨rfl, rfl, rfl, by decide +kernel, rfl, by decide +kernel, by decide +kernel⟩
theorem ok_is_of_sort (T : TX K mg) : Ok P w K mg base CX0 1 "is_of_sort" ["item", "thing"] (spSort K) := by
  refine Ok.mk' T T.m_is_of_sort T.f_is_of_sort sc_is_of_sort (fun vs H Q E h => ?_) (fun _ _ _ _ _ _ us hl => match us, hl with | [_, _], _ => rfl) (fun cdv A outer s H vs Q E hr h => ?_)
  · obtain ⟨iv, tv, it, t, rfl, _⟩ := h
    rfl
  · obtain ⟨iv, tv, it, t, rfl, di, dt, hf, q⟩ := h
    refine ⟨_, (pss_cons (ps_if (pt_cmpR op_eq (pe_ix ix_tup (pv 0) pe_int (fun _ _ => rfl)) pe_str (nomark _))
        (pss_one (ps_ret (pe_and (pe_callB call_isi (by rfl) T.n_isinstance (by decide +kernel) (pa_cons (pv 1) (pa_cons (pe_bltn (v := .ty "int") (by rfl) T.n_int (by decide +kernel) rfl) pa_nil))) (pe_one (pe_not (pe_callB call_isi (by rfl) T.n_isinstance (by decide +kernel) (pa_cons (pv 1) (pa_cons (pe_bltn (v := .ty "bool") (by rfl) T.n_bool (by decide +kernel) rfl) pa_nil))))))))
        pss_nil)
      (pss_cons (ps_if (pt_cmpR op_eq (pe_ix ix_tup (pv 0) pe_int (fun _ _ => rfl)) pe_str (nomark _))
        (pss_one (ps_ret (pe_callB call_isi (by rfl) T.n_isinstance (by decide +kernel) (pa_cons (pv 1) (pa_cons (pe_bltn (v := .ty "str") (by rfl) T.n_str (by decide +kernel) rfl) pa_nil)))))
        pss_nil)
      (pss_one (ps_ret (pe_callB call_isi (by rfl) T.n_isinstance (by decide +kernel) (pa_cons (pv 1) (pa_cons (pe_bltn (v := .ty "tuple") (by rfl) T.n_tuple (by decide +kernel) rfl) pa_nil))))))), ?_⟩
    obtain ⟨a2, rest, rfl, hT2, _⟩ := Item.fields di
    refine ⟨_, rfl, a2, _, 0, .str it.tag, rfl, rfl, hT2.sq, at_of (j := 0) rfl rfl, rfl, _, rfl, ?_⟩
    rw [decV]
    cases it with
    | sign s => cases t <;> cases hf
    | lit =>
      cases t with
      | num i =>
        obtain rfl := (show tv = .int i from Td.intI dt)
        exact ifT (show decide (("lit" : Str) = "lit") = true by decide +kernel) ⟨_, rfl, _, .ty "int", _, _, _, rfl, .ty "int", .base (.int i), kit_ty (show kitB "int" "int" = some true by decide +kernel), true, rfl, _, rfl, _, .ty "bool", _, _, _, rfl, .ty "bool", .base (.int i), kit_ty (show kitB "int" "bool" = some false by decide +kernel), false, rfl, q⟩
      | _ => cases hf
    | name k =>
      cases t with
      | nm x =>
        obtain rfl := (show tv = .str x from Td.strI dt)
        refine ifF (show decide (("name" : Str) = "lit") = false by decide +kernel) ⟨_, rfl, a2, _, 0, .str "name", rfl, rfl, hT2.sq, at_of (j := 0) rfl rfl, rfl, _, rfl, ?_⟩
        rw [decV]
        exact ifT (show decide (("name" : Str) = "name") = true by decide +kernel) ⟨_, rfl, _, .ty "str", _, _, _, rfl, .ty "str", .base (.str x), kit_ty (show kitB "str" "str" = some true by decide +kernel), q⟩
      | _ => cases hf
    | term k os =>
      have ht : isT t = true := hf
      obtain ⟨ty, hty, hk⟩ := tm_ty dt
      rw [ht] at hk
      refine ifF (show decide (("term" : Str) = "lit") = false by decide +kernel) ⟨_, rfl, a2, _, 0, .str "term", rfl, rfl, hT2.sq, at_of (j := 0) rfl rfl, rfl, _, rfl, ?_⟩
      rw [decV]
      exact ifF (show decide (("term" : Str) = "name") = false by decide +kernel) ⟨_, rfl, _, .ty "tuple", _, _, _, rfl, .ty "tuple", hty, hk, q⟩
/-! ### the things due -/
def spDue (K : PySem.W.Frag) : Sp := fun vs H Q _ => ∃ (v : V) (f : Form × PyData), vs = [v] ∧ Td K H v (formD f) ∧ f.1.items.length ≤ 7 ∧
  ∀ p H' ds, Same H H' → H p = none → H' p = some (.lst ds) → Tds K H' ds (f.1.dues.map Item.data) → Q (.ref p) H'
abbrev N_things_due : List Str := ["form", "item"]
theorem sc_things_due : FnScope N_things_due ["form"] (defScope s_things_due) := ⟨rfl, rfl, rfl, by decide +kernel, rfl, by decide +kernel, by decide +kernel⟩
theorem ok_things_due (T : TX K mg) : Ok P w K mg base CX0 1 "things_due" ["form"] (spDue K) := by
  refine Ok.mk' T T.m_things_due T.f_things_due sc_things_due (fun vs H Q E h => ?_) (fun _ _ _ _ _ _ us hl => match us, hl with | [_], _ => rfl) (fun cdv A outer s H vs Q E hr h => ?_)
  · obtain ⟨v, f, rfl, _⟩ := h
    rfl
  · obtain ⟨v, fo, rfl, df, hl7, q⟩ := h
    refine ⟨_, (pss_one (ps_ret (pe_lc (own := [("item", 1)]) (g := gName 1) (by rfl) sc_things_due.nd (pi_tup (pe_ix ix_tup (pv 0) pe_int (fun _ _ => rfl))) (blkOk_by (own := [("item", 1)]) (N := N_things_due) (sc := defScope s_things_due) (by decide +kernel)) (fun _ _ _ _ _ => (pg_name (i := 1) sc_things_due.nd rfl (Or.inl rfl))) (fun _ _ _ _ _ => pts_one (pt_cmpR op_ne (pe_ix (ix_tupK (K := K)) (pv 1) pe_int (fun _ _ => rfl)) pe_str (nomark _))) (fun _ _ _ _ _ => (pv 1))))), ?_⟩
    obtain ⟨fa, u1, u2, u3, u4, rfl, hFa, k1, k2, k3, k4⟩ := Td.i4 df
    obtain ⟨ia, its, rfl, hia, hits⟩ := k2.inv
    have hitl : its.length = fo.1.items.length := by rw [hits.len, List.length_map]
    refine ⟨_, rfl, fa, _, 1, .ref ia, rfl, rfl, hFa.sq, rfl, ia, rfl, ⟨_, hia.sq⟩, fun D2 nD2 => lc_it (walk_tup (K := K) (a := ia) (xs := its)) (fun i H' => Same H H' ∧ ∃ acc, H' D2 = some (.lst acc) ∧ Tds K H' acc (((fo.1.items.take i).filter notSign).map Item.data)) ⟨same_new nD2, [], upd_same, .nil⟩ (fun i H' _ hP => (hia.mono (tk hP.1)).sq) (fun i x Ha Hb hi hP hY => ?_) (fun Ha hP => ?_)⟩
    · obtain ⟨sa, acc, ea, ta⟩ := hP
      obtain ⟨rfl, hx⟩ := hY
      obtain ⟨dd, hdd, dx⟩ := (hits.mono (tk sa)).getV hx
      obtain ⟨it, hit, rfl⟩ := map_at hdd
      obtain ⟨a2, rest, rfl, hT2, _⟩ := Item.fields dx
      have keep : (fo.1.items.take (i + 1)).filter notSign = (fo.1.items.take i).filter notSign ++ [it].filter notSign := by
        rw [take_succ' hit, List.filter_append]
      have hsg : (!decide (it.tag = "sign")) = notSign it := by cases it <;> rfl
      refine ⟨rfl, _, rfl, a2, _, 0, .str it.tag, rfl, rfl, hT2.sq, at_of (j := 0) rfl rfl, rfl, _, rfl, ?_⟩
      rw [decV, hsg]
      cases hN : notSign it with
      | true =>
        refine ifT rfl ⟨_, rfl, acc, ea, ?_, smut sa nD2, _, upd_same, ?_⟩
        · rw [ta.len, List.length_map]
          have := List.length_filter_le notSign (fo.1.items.take i)
          rw [List.length_take] at this
          exact lzl (by omega)
        · rw [keep, List.filter_cons_of_pos hN, List.map_append]
          exact Tds.mono (TupK.put (TupK.refl _) ea rfl) (ta.snoc dx)
      | false =>
        refine ifF rfl ⟨sa, acc, ea, ?_⟩
        rw [keep, List.filter_cons_of_neg (by rw [hN]; exact Bool.false_ne_true)]
        simpa using ta
    · obtain ⟨sa, due, ea, ta⟩ := hP
      rw [show fo.1.items.take its.length = fo.1.items from List.take_of_length_le (by omega)] at ta
      exact q D2 Ha due sa nD2 ea ta
end K27

set_option maxHeartbeats 8000000
namespace L2
open PySem PySem.Spec PyProof.Rows
section
variable {J : It} {n : Nat} {G : Hp → Prop} {Y : Nat → Hp → V → Hp → Prop}
/-- a dict comprehension, by a word of the turn -/
theorem dc_it (w : Walk J n G Y) {g : TG} {tt : TT} {tk tv : TE} {vs : List Nat} {σ : St} {H1 : Hp} {D : Addr} {Qd : Hp → Prop} (Pv : Nat → Hp → Prop) (h0 : Pv 0 (upd H1 D (.dK []))) (hG : ∀ i H, i ≤ n → Pv i H → G H)
    (hs : ∀ i x H H', i < n → Pv i H → Y i H x H' → g x (wipe σ vs) H' fun σ2 H2 => wipe σ2 vs = wipe σ vs ∧ tt σ2 H2 fun b H3 =>
      if b = true then tk σ2 H3 fun y H4 => tv σ2 H4 fun z H5 => ∃ kvs k, y = kV k ∧ H5 D = some (.dK kvs) ∧ kvs.length < sizeLine ∧ Pv (i + 1) (upd H5 D (.dK (putK kvs k z))) else Pv (i + 1) H3) (hd : ∀ H, Pv n H → Qd H) :
    ∃ W : Nat → Nat → Hp → Prop, (∃ m, W 0 m (upd H1 D (.dK []))) ∧ ∀ i m H, W i m H →
      (J.stop i H ∧ Qd H) ∨ (J.go i H ∧ ∃ Nx : Hp → Prop, (∀ H', Nx H' → ∃ m', m' < m ∧ W (i + 1) m' H') ∧ ∀ x H', J.yld i H x H' → g x (wipe σ vs) H' fun σ2 H2 => wipe σ2 vs = wipe σ vs ∧ tt σ2 H2 fun b H3 =>
        if b = true then tk σ2 H3 fun y H4 => tv σ2 H4 fun z H5 => ∃ kvs k, y = kV k ∧ H5 D = some (.dK kvs) ∧ kvs.length < sizeLine ∧ Nx (upd H5 D (.dK (putK kvs k z))) else Nx H3) := by
  refine ⟨fun i m H => m = n - i ∧ i ≤ n ∧ Pv i H, ⟨n, by simp, Nat.zero_le _, h0⟩, ?_⟩
  rintro i m H ⟨rfl, hi, p⟩
  have q := hG i H hi p
  by_cases hlt : i < n
  · exact .inr ⟨w.goes i H hlt q, Pv (i + 1), fun H' p' => ⟨n - (i + 1), by omega, rfl, hlt, p'⟩, fun x H' y => hs i x H H' hlt p (w.yields i H x H' hlt q y)⟩
  · have e : i = n := by omega
    subst e
    exact .inl ⟨w.stops H q, hd H p⟩
end
section
variable {X : Cx}
/-- a thing is locked for good -/
def tFrz (te : TE) : TE := fun σ H Q => te σ H fun x H1 => ∃ d u, x = .ref d ∧ H1 d = some u ∧ Mut (some u) ∧ ∀ od, Q x (upd H1 d (.frz od u))
theorem pe_frz {e : Expr} {te : TE} (he : PE X e te) : PE X e (tFrz te) := by
  refine ⟨fun pins s σ H Q I h => ?_⟩
  refine thn (he.run pins s σ H _ I h) fun v s1 ⟨x, H1, I1, r1, d, u, ex, hd, mu, q⟩ => ?_
  obtain ⟨od, I2⟩ := I1.lock hd mu
  exact ⟨x, _, I2, r1, q od⟩
end
end L2
namespace K27
open PySem PySem.Spec PyProof.Rows L2
variable {P : Program} {w : World} {K : PySem.W.Frag} {mg : Str → Option Value} {base : Heap}
/-! ### a dict from names to data -/
structure DKv {α : Type} (nm : α → Str) (dat : α → PyData) (K : PySem.W.Frag) (H : Hp) (kvs : List (Key × V)) (l : List α) : Prop where
  keys : kvs.map (·.1) = l.map fun q => (.inr (nm q) : Key)
  vals : Tds K H (kvs.map (·.2)) (l.map dat)
section
variable {α : Type} {nm : α → Str} {dat : α → PyData} {H H' : Hp} {kvs : List (Key × V)} {l : List α}
theorem DKv.nil : DKv nm dat K H [] [] := ⟨rfl, .nil⟩
theorem DKv.mono (h : DKv nm dat K H kvs l) (k : TupK H H') : DKv nm dat K H' kvs l := ⟨h.keys, h.vals.mono k⟩
theorem DKv.snoc (h : DKv nm dat K H kvs l) {q : α} {v : V} (hv : Td K H v (dat q)) (hn : nm q ∉ l.map nm) : DKv nm dat K H (putK kvs (.inr (nm q)) v) (l ++ [q]) := by
  have e : putK kvs (.inr (nm q)) v = kvs ++ [(.inr (nm q), v)] := putK_new (by
    rw [h.keys]
    intro hm
    obtain ⟨z, hz, e⟩ := List.mem_map.mp hm
    exact hn (List.mem_map.mpr ⟨z, hz, Sum.inr.inj e⟩))
  rw [e]
  exact ⟨by rw [List.map_append, List.map_append, h.keys]; rfl, by rw [List.map_append, List.map_append]; exact h.vals.snoc hv⟩
theorem DKv.len (h : DKv nm dat K H kvs l) : kvs.length = l.length := by
  have := congrArg List.length h.keys
  simpa using this
theorem DKv.at (h : DKv nm dat K H kvs l) {x : Str} : (∀ q, l.find? (fun q => decide (nm q = x)) = some q → ∃ v, valV kvs (.inr x) = some v ∧ Td K H v (dat q)) ∧ (l.find? (fun q => decide (nm q = x)) = none → valV kvs (.inr x) = none) := by
  obtain ⟨hk, hv⟩ := h
  induction kvs generalizing l with
  | nil =>
    cases l with
    | nil => exact ⟨fun q hq => (by cases hq), fun _ => rfl⟩
    | cons a l => cases hk
  | cons p kvs ih =>
    cases l with
    | nil => cases hk
    | cons a l =>
      rw [List.map_cons, List.map_cons] at hk
      have hk1 := List.head_eq_of_cons_eq hk
      have hk2 := List.tail_eq_of_cons_eq hk
      obtain ⟨v, r, e, h1, h2⟩ := hv.cons_inv
      rw [List.map_cons] at e
      have e1 := List.head_eq_of_cons_eq e
      have e2 := List.tail_eq_of_cons_eq e
      obtain ⟨i1, i2⟩ := ih hk2 (by rw [e2]; exact h2)
      obtain ⟨pk, pv⟩ := p
      simp only at hk1 e1
      subst hk1 e1
      rw [List.find?_cons]
      by_cases hx : nm a = x
      · rw [decide_eq_true hx]
        have ev : valV ((.inr (nm a), pv) :: kvs) (.inr x) = some pv := by
          rw [hx]
          unfold valV
          simp
        exact ⟨fun q hq => ⟨pv, ev, (by cases hq; exact h1)⟩, fun hq => (by cases hq)⟩
      · rw [decide_eq_false hx]
        have ev : valV ((.inr (nm a), pv) :: kvs) (.inr x) = valV kvs (.inr x) := by
          unfold valV
          have : ((.inr (nm a) : Key) = .inr x) ↔ False := ⟨fun z => hx (Sum.inr.inj z), False.elim⟩
          simp [this]
        rw [ev]
        exact ⟨i1, i2⟩
end
theorem not_before {α : Type} {nm : α → Str} {l : List α} {i : Nat} {q : α} (h : (l.map nm).Nodup) (hq : l[i]? = some q) : nm q ∉ (l.take i).map nm := by
  obtain ⟨hl, he⟩ := List.getElem?_eq_some_iff.mp hq
  have h3 := List.take_append_drop i l
  rw [List.drop_eq_getElem_cons hl, he] at h3
  rw [← h3, List.map_append, List.map_cons] at h
  intro hm
  exact (List.nodup_append.mp h).2.2 _ hm _ List.mem_cons_self rfl
theorem DKv.get {α : Type} {nm : α → Str} {dat : α → PyData} {H : Hp} {kvs : List (Key × V)} {l : List α} (h : DKv nm dat K H kvs l) {i : Nat} {p : Key × V} (e : kvs[i]? = some p) : ∃ q, l[i]? = some q ∧ p.1 = .inr (nm q) ∧ Td K H p.2 (dat q) := by
  have h1 : (kvs.map (·.1))[i]? = some p.1 := by rw [List.getElem?_map, e]; rfl
  rw [h.keys, List.getElem?_map] at h1
  obtain ⟨q, hq, e1⟩ := Option.map_eq_some_iff.mp h1
  have h2 : (kvs.map (·.2))[i]? = some p.2 := by rw [List.getElem?_map, e]; rfl
  obtain ⟨d, hd, dx⟩ := h.vals.getV h2
  obtain ⟨q', hq', rfl⟩ := map_at hd
  rw [hq] at hq'
  cases hq'
  exact ⟨q, hq, e1.symm, dx⟩
theorem HKv.dkv {H : Hp} {kvs : List (Key × V)} {l : List (Str × Hd)} (h : HKv K H kvs l) : DKv (fun q : Str × Hd => q.2.1) ownD K H kvs l := ⟨h.keys, h.vals⟩
/-! ### methods of Looking -/
abbrev LkC (K : PySem.W.Frag) : Addr := He.ga K "Looking"
/-- a method that keeps a promise -/
structure OkM (P : Program) (w : World) (K : PySem.W.Frag) (mg : Str → Option Value) (base : Heap) (CX : CXT) (k : Nat) (m : Str) (ps : List Str) (sp : Sp) : Prop where
  ex : ∃ fd, FnOk P w K mg base CX k (He.ma K (LkC K) m) fd ps sp ∧ Binds K fd ps []
theorem OkM.mk' {k : Nat} {m q : Str} {st : Stmt} {N ps : List Str} {sp : Sp} (F : ∃ fd, FunD K m q (defArgs st) (defBody st) (defScope st) [] [] (He.ma K (LkC K) m) fd) (S : FnScope N ps (defScope st)) (len : ∀ vs H Q E, sp vs H Q E → vs.length = ps.length)
    (hb : ∀ (kV doc pm : Value) (an : Option Addr) (cdv ct : Value) (us : List Value), us.length = ps.length → bindArgs (PySem.W.fnOf m q (defArgs st) (defBody st) (defScope st) .none kV doc pm an cdv ct) ⟨us, []⟩ = pure (ps.zip us))
    (hbody : ∀ (cdv : Value) (A : Around) (outer : List Env) (s : Shared) (H : Hp) (vs : List V) (Q : VK) (E : XK), Room k (A.deeper (envOfC q (defScope st) s.heap.objs.size (He.ma K (LkC K) m) cdv)) → sp vs H Q E →
      ∃ t, PSs (cxOf CX0 P w K mg base N q (defScope st) (He.ma K (LkC K) m) cdv A outer s H E).nox (defBody st) t ∧ t { nx := fun _ H' => Q .non H', rt := Q } (start N vs) H) : OkM P w K mg base CX0 (k + 1) m ps sp := by
  obtain ⟨fd, F⟩ := F
  refine ⟨fd, F.ok S len fun cdv A outer s H vs Q E hr h => ?_, F.bindsN hb⟩
  obtain ⟨t, h1, h2⟩ := hbody cdv A outer s H vs Q E hr h
  exact ⟨t, h1.nox, h2⟩
/-- what a Looking holds -/
def lkFs (own : Str) (fd hd : Addr) : List (Str × V) := [("tongue", .str own), ("forms", .ref fd), ("heads", .ref hd)]
structure Lk (K : PySem.W.Frag) (H : Hp) (x : Addr) (tw : List It) (own : Str) : Prop where
  ex : ∃ dx fd hd fkv hkv, H x = some (.ins (LkC K) dx (lkFs own fd hd)) ∧ H fd = some (.dK fkv) ∧ DKv (fun q : Form × PyData => q.1.head) formD K H fkv (tongueOf tw own).forms ∧ H hd = some (.dK hkv) ∧ DKv (fun q : Str × Hd => q.2.1) ownD K H hkv ((allHeads tw).filter fun q => decide (q.1 = own))
theorem Lk.same {H H' : Hp} {x : Addr} {tw : List It} {own : Str} (h : Lk K H x tw own) (s : Same H H') : Lk K H' x tw own := by
  obtain ⟨dx, fd, hd, fkv, hkv, h1, h2, h3, h4, h5⟩ := h
  exact ⟨dx, fd, hd, fkv, hkv, s _ _ h1, s _ _ h2, h3.mono (tk s), s _ _ h4, h5.mono (tk s)⟩
def spLookInit (K : PySem.W.Frag) : Sp := fun vs H Q _ => ∃ (x dx : Addr) (tv : V) (tw : List It) (own : Str), vs = [.ref x, tv, .str own] ∧ H x = some (.ins (LkC K) dx []) ∧ Td K H tv (.tuple (tw.map It.data)) ∧ TwOk tw ∧ OwnOk tw own ∧
  ∀ H', But x H H' → Lk K H' x tw own → Q .non H'
abbrev N_Looking_init : List Str := ["self", "tower", "tongue", "form", "f", "head"]
theorem sc_Looking_init : FnScope N_Looking_init ["self", "tower", "tongue"] (defScope s_Looking_init) := ⟨rfl, rfl, rfl, by decide +kernel, rfl, by decide +kernel, by decide +kernel⟩
theorem ok_Looking_init (T : TX K mg) : OkM P w K mg base CX0 3 "__init__" ["self", "tower", "tongue"] (spLookInit K) := by
  refine OkM.mk' T.f_Looking_init sc_Looking_init (fun vs H Q E h => ?_) (fun _ _ _ _ _ _ us hl => match us, hl with | [_, _, _], _ => rfl) (fun cdv A outer s H vs Q E hr h => ?_)
  · obtain ⟨x, dx, tv, tw, own, rfl, _⟩ := h
    rfl
  · obtain ⟨x, dx, tv, tw, own, rfl, ex, dt, htw, ho, q⟩ := h
    have hu := hu_of hr
    refine ⟨_, (pss_cons (ps_fld (pv 0) (pv 2) rfl)
      (pss_cons (ps_fld (pv 0) (pe_dc (own := [("form", 3)]) (g := gName 3) (tt := tYes) (by rfl) sc_Looking_init.nd (pi_tup (pe_ix ix_tup (pe_ok (ok_tongue_of T) hr (by decide) (by rfl) (pa_cons (pv 1) (pa_cons (pv 2) pa_nil)) pass0) pe_int (fun _ _ => rfl))) (blkOk_by (own := [("form", 3)]) (N := N_Looking_init) (sc := defScope s_Looking_init) (by decide +kernel)) (fun _ _ _ _ _ => (pg_name (i := 3) sc_Looking_init.nd rfl (Or.inl rfl))) (fun _ _ _ _ _ => pts_nil) (fun _ _ _ _ _ => (pe_ix (ix_tupK (K := K)) (pv 3) pe_int (fun _ _ => rfl))) (fun _ _ _ _ _ => (pv 3))) rfl)
      (pss_one (ps_fld (pv 0) (pe_dc (own := [("f", 4), ("head", 5)]) (g := gTup K 2 (gCons (gName 4) (gCons (gName 5) gNil))) (by rfl) sc_Looking_init.nd (pi_items (pe_frz (pe_ok (ok_heads_of T) hr (by decide) (by rfl) (pa_cons (pv 1) pa_nil) pass0))) (blkOk_by (own := [("f", 4), ("head", 5)]) (N := N_Looking_init) (sc := defScope s_Looking_init) (by decide +kernel)) (fun _ _ _ _ _ => (pg_tup rfl (pgs_cons (pg_name (i := 4) sc_Looking_init.nd rfl (Or.inl rfl)) (pgs_cons (pg_name (i := 5) sc_Looking_init.nd rfl (Or.inl rfl)) pgs_nil)))) (fun _ _ _ _ _ => pts_one (pt_cmpR op_eq (pe_ix (ix_tupK (K := K)) (pv 5) pe_int (fun _ _ => rfl)) (pv 2) (nomark _))) (fun _ _ _ _ _ => (pv 4)) (fun _ _ _ _ _ => (pv 5))) rfl)))), ?_⟩
    obtain ⟨okT, hnm⟩ := tongueOf_ok htw ho
    have hkT : TupK H (upd H x (.ins (LkC K) dx [("tongue", .str own)])) := TupK.put (TupK.refl _) ex rfl
    refine ⟨_, rfl, _, rfl, x, LkC K, dx, [], rfl, ex, T.cl_Looking, T.na_tongue, by decide, ?_⟩
    generalize hE : upd H x _ = H1
    have e1 : H1 x = some (.ins (LkC K) dx [("tongue", .str own)]) := by rw [← hE]; exact upd_same
    have b1 : But x H H1 := by rw [← hE]; exact (But.refl _ _).put
    have k1 : TupK H H1 := by rw [← hE]; exact hkT
    clear hE hkT
    refine ⟨_, rfl, _, rfl, tv, own, tw, rfl, dt.mono k1, htw, ho, fun r H2 s2 dr => ?_⟩
    obtain ⟨aT, w1, w2, w3, w4, w5, w6, w7, rfl, hTB, t1, t2, t3, t4, t5, t6, t7⟩ := Td.i7 dr
    obtain ⟨af, fsv, rfl, haf, hfs⟩ := Td.inv t7
    clear t1 t2 t3 t4 t5 t6 t7
    have hfl : fsv.length = (tongueOf tw own).forms.length := by rw [hfs.len, List.length_map]
    have hf100 := okT.flen
    refine ⟨aT, _, 6, .ref af, rfl, rfl, hTB.sq, rfl, af, rfl, ⟨_, haf.sq⟩, fun D nD => dc_it (walk_tup (K := K) (a := af) (xs := fsv)) (fun i H' => Same H2 H' ∧ ∃ kvs, H' D = some (.dK kvs) ∧ DKv (fun q : Form × PyData => q.1.head) formD K H' kvs ((tongueOf tw own).forms.take i)) ⟨same_new nD, [], upd_same, .nil⟩ (fun i H' _ hP => (haf.mono (tk hP.1)).sq) (fun i y Hz Hb hi hP hY => ?_) (fun Ha hP => ?_)⟩
    · obtain ⟨sa, kvs, ea, ka⟩ := hP
      obtain ⟨rfl, hx⟩ := hY
      obtain ⟨dd, hdd, dx'⟩ := (hfs.mono (tk sa)).getV hx
      obtain ⟨q0, hq0, rfl⟩ := map_at hdd
      have dxx := dx'
      obtain ⟨e, u1, u2, u3, u4, rfl, hTe, g1, g2, g3, g4⟩ := Td.i4 dx'
      obtain rfl := g1.strI
      have hl := ka.len
      rw [List.length_take] at hl
      refine ⟨rfl, _, rfl, e, _, 0, .str q0.1.head, rfl, rfl, hTe.sq, rfl, _, rfl, kvs, .inr q0.1.head, rfl, ea, lzl (by omega), smut sa nD, _, upd_same, ?_⟩
      rw [take_succ' hq0]
      exact (ka.snoc (q := q0) dxx (not_before (nm := fun q : Form × PyData => q.1.head) okT.heads hq0)).mono (TupK.put (TupK.refl _) ea rfl)
    obtain ⟨sa, fkv, ea, ka⟩ := hP
    rw [show (tongueOf tw own).forms.take fsv.length = (tongueOf tw own).forms from List.take_of_length_le (by omega)] at ka
    have s1a := s2.trans sa
    have exa := s1a _ _ e1
    have nDx : D ≠ x := fun z => by rw [z, s2 _ _ e1] at nD; cases nD
    refine ⟨_, rfl, x, LkC K, dx, _, rfl, exa, T.cl_Looking, T.na_forms, by show 1 < 1000; decide, ?_⟩
    have hp1 : putF "forms" (.ref D) [(("tongue" : Str), V.str own)] = [(("tongue" : Str), V.str own), (("forms" : Str), V.ref D)] := rfl
    rw [hp1]
    generalize hE : upd Ha x _ = H3
    have e3 : H3 x = some (.ins (LkC K) dx [("tongue", .str own), ("forms", .ref D)]) := by rw [← hE]; exact upd_same
    have o3 : ∀ c, c ≠ x → H3 c = Ha c := fun c h => by rw [← hE, upd_ne h]
    have k3 : TupK Ha H3 := by rw [← hE]; exact TupK.put (TupK.refl _) exa rfl
    have b3 : But x H H3 := by rw [← hE]; exact (b1.trans (But.of s1a)).put
    have eD3 : H3 D = some (.dK fkv) := by rw [o3 _ nDx]; exact ea
    have ka3 := ka.mono k3
    have kH3 := k1.trans ((tk s1a).trans k3)
    clear hE sa ka ea exa hfs haf hTB s2 nD
    refine ⟨_, rfl, tv, tw, rfl, dt.mono kH3, htw, fun p H4 kvs s4 np e4 hk => ⟨p, _, rfl, e4, trivial, fun od => ?_⟩⟩
    generalize hE : upd H4 p _ = H5
    have e5 : H5 p = some (.frz od (.dK kvs)) := by rw [← hE]; exact upd_same
    have s5 : Same H3 H5 := by rw [← hE]; exact smut s4 np
    have k5 : TupK H4 H5 := by rw [← hE]; exact TupK.put (TupK.refl _) e4 rfl
    have hk5 := (hk.mono k5).dkv
    clear hE
    have hal := all_len fun p hp => (htw.part p hp).len
    have h20 := htw.len
    have hnd := all_nodup htw.nd htw.nm fun p hp => ⟨(htw.part p hp).nd, fun r hr => ((htw.part p hp).rows r hr).nm⟩
    have hkl := hk5.len
    refine ⟨p, od, kvs, rfl, e5, fun D2 nD2 => dc_it walk_items (fun i H' => Same H5 H' ∧ ∃ kv2, H' D2 = some (.dK kv2) ∧ DKv (fun q : Str × Hd => q.2.1) ownD K H' kv2 (((allHeads tw).take i).filter fun q => decide (q.1 = own))) ⟨same_new nD2, [], upd_same, .nil⟩ (fun i H' _ hP => hP.1 _ _ e5) (fun i y Hb Hc hi hP hY => ?_) (fun Hb hP => ?_)⟩
    · obtain ⟨sb, kv2, eb, kb⟩ := hP
      obtain ⟨Tp, x1, x2, rfl, nT, eH, f1, f2⟩ := hY
      subst eH
      generalize hE : upd Hb Tp _ = H6
      obtain ⟨sT, eT⟩ := mk hE nT
      clear hE
      obtain ⟨pr, hpr, rfl⟩ := Option.map_eq_some_iff.mp f1
      have f2' : (kvs[i]?.map Prod.snd) = some x2 := f2
      rw [hpr] at f2'
      cases f2'
      obtain ⟨q0, hq0, hk0, dq⟩ := (hk5.mono (tk (sb.trans sT))).get hpr
      have dqq := dq
      obtain ⟨e, u1, u2, u3, he, hTe, g1, g2, g3⟩ := Td.i3 dq
      obtain rfl := g1.strI
      have keep : ((allHeads tw).take (i + 1)).filter (fun q => decide (q.1 = own)) = ((allHeads tw).take i).filter (fun q => decide (q.1 = own)) ++ [q0].filter (fun q => decide (q.1 = own)) := by
        rw [take_succ' hq0, List.filter_append]
      have hl := kb.len
      have hl2 := List.length_filter_le (fun q : Str × Hd => decide (q.1 = own)) ((allHeads tw).take i)
      rw [List.length_take] at hl2
      have eb6 := sT _ _ eb
      refine ⟨Tp, _, rfl, .inl (.inl eT), rfl, _, _, rfl, _, _, rfl, rfl, rfl, _, rfl, e, _, 0, .str q0.1, he, rfl, hTe.sq, rfl, _, rfl, rfl, _, rfl, ?_⟩
      rw [decV]
      by_cases hn : q0.1 = own
      · refine ifT (decide_eq_true hn) ⟨_, rfl, _, rfl, kv2, .inr q0.2.1, by rw [hk0], eb6, lzl (by omega), smut (sb.trans sT) nD2, _, upd_same, ?_⟩
        rw [keep, List.filter_cons_of_pos (by simp [hn])]
        refine ((kb.mono (tk sT)).snoc (q := q0) dqq fun hm => ?_).mono (TupK.put (TupK.refl _) eb6 rfl)
        obtain ⟨z, hz, ez⟩ := List.mem_map.mp hm
        exact not_before (nm := fun q : Str × Hd => q.2.1) hnd hq0 (List.mem_map.mpr ⟨z, (List.mem_filter.mp hz).1, ez⟩)
      · refine ifF (decide_eq_false hn) ⟨sb.trans sT, kv2, eb6, ?_⟩
        rw [keep, List.filter_cons_of_neg (by simp [hn])]
        simpa using kb.mono (tk sT)
    obtain ⟨sb, hkv, eb, kb⟩ := hP
    rw [show (allHeads tw).take kvs.length = allHeads tw from List.take_of_length_le (by omega)] at kb
    have s35 := s5.trans sb
    have exb := s35 _ _ e3
    have nD2x : D2 ≠ x := fun z => by rw [z, s5 _ _ e3] at nD2; cases nD2
    refine ⟨_, rfl, x, LkC K, dx, _, rfl, exb, T.cl_Looking, T.na_heads, by show 2 < 1000; decide, ?_⟩
    have hp2 : putF "heads" (.ref D2) [(("tongue" : Str), V.str own), (("forms" : Str), V.ref D)] = lkFs own D D2 := rfl
    rw [hp2]
    generalize hE : upd Hb x _ = H7
    have e7 : H7 x = some (.ins (LkC K) dx (lkFs own D D2)) := by rw [← hE]; exact upd_same
    have o7 : ∀ c, c ≠ x → H7 c = Hb c := fun c h => by rw [← hE, upd_ne h]
    have k7 : TupK Hb H7 := by rw [← hE]; exact TupK.put (TupK.refl _) exb rfl
    have b7 : But x H H7 := by rw [← hE]; exact (b3.trans (But.of s35)).put
    exact q H7 b7 ⟨⟨dx, D, D2, fkv, hkv, e7, by rw [o7 _ nDx]; exact s35 _ _ eD3, (ka3.mono (tk s35)).mono k7, by rw [o7 _ nD2x]; exact eb, kb.mono k7⟩⟩
end K27

set_option maxHeartbeats 8000000
namespace K27
open PySem PySem.Spec PyProof.Rows L2
variable {P : Program} {w : World} {K : PySem.W.Frag} {mg : Str → Option Value} {base : Heap}
/-- the heads over a tongue, by name -/
theorem own_find {tw : List It} {own f : Str} {p : Hd} (h : (headsOf tw own).find? (fun q => decide (q.1 = f)) = some p) : ((allHeads tw).filter fun q => decide (q.1 = own)).find? (fun q => decide (q.2.1 = f)) = some (own, p) := by
  rw [all_own, List.find?_map] at h
  obtain ⟨z, hz, rfl⟩ := Option.map_eq_some_iff.mp h
  have hm := (List.mem_filter.mp (List.mem_of_find?_eq_some hz)).2
  have ho : z.1 = own := by simpa using hm
  have e : (own, z.2) = z := by rw [← ho]
  rw [e]
  exact hz
def spWrongCall (K : PySem.W.Frag) : Sp := fun vs H Q _ => ∃ (x : Addr) (f : Str) (cv : V) (k own : Str) (tw : List It) (args : List Tm) (p : Hd), vs = [.ref x, .str f, cv, .str k] ∧ Lk K H x tw own ∧ Td K H cv (.tuple (args.map Tm.data)) ∧ (headsOf tw own).find? (fun q => decide (q.1 = f)) = some p ∧
  p.2.1.length = args.length ∧ args.length ≤ 7 ∧ (∀ t ∈ args, isT t = true) ∧ ∀ H', Same H H' → Q (if p.2.2 = k then .non else .str "kind") H'
abbrev N_Looking_wrong_call : List Str := ["self", "f", "args", "due", "tongue", "kinds", "gives", "arg"]
theorem sc_Looking_wrong_call : FnScope N_Looking_wrong_call ["self", "f", "args", "due"] (defScope s_Looking_wrong_call) := ⟨rfl, rfl, rfl, by decide +kernel, rfl, by decide +kernel, by decide +kernel⟩
theorem ok_Looking_wrong_call (T : TX K mg) : OkM P w K mg base CX0 1 "wrong_call" ["self", "f", "args", "due"] (spWrongCall K) := by
  refine OkM.mk' T.f_Looking_wrong_call sc_Looking_wrong_call (fun vs H Q E h => ?_) (fun _ _ _ _ _ _ us hl => match us, hl with | [_, _, _, _], _ => rfl) (fun cdv A outer s H vs Q E hr h => ?_)
  · obtain ⟨x, f, cv, k, own, tw, args, p, rfl, _⟩ := h
    rfl
  · obtain ⟨x, f, cv, k, own, tw, args, p, rfl, hL, dc, hf, hpl, h7, hT, q⟩ := h
    have hu := hu_of hr
    refine ⟨_, (pss_cons (ps_if (pt_cmp (pc_dnotin hu (pv 1) (pe_fld (pv 0) rfl)) rfl)
        (pss_one (ps_ret pe_str))
        pss_nil)
      (pss_cons (ps_asg (pe_dget hu (pe_fld (pv 0) rfl) (pv 1) (fun _ _ => rfl)) (pg_tup rfl (pgs_cons (pg_name (i := 4) sc_Looking_wrong_call.nd rfl (.inl rfl)) (pgs_cons (pg_name (i := 5) sc_Looking_wrong_call.nd rfl (.inl rfl)) (pgs_cons (pg_name (i := 6) sc_Looking_wrong_call.nd rfl (.inl rfl)) pgs_nil)))))
      (pss_cons (ps_if (PW.pt (pw_or (pt_cmpR op_ne (pe_callB call_len_seq (by rfl) T.n_len PySem.boot_len (pa_cons (pv 2) pa_nil)) (pe_callB call_len_seq (by rfl) T.n_len PySem.boot_len (pa_cons (pv 5) pa_nil)) (nomark _)) (pw_or1 (pt_not (pt_val (pe_callB (cr_all rfl) (by rfl) T.n_all (by decide +kernel) (pa_cons (pe_lc (own := [("arg", 7)]) (g := gName 7) (tt := tYes) (by rfl) sc_Looking_wrong_call.nd (pi_tup (pv 2)) (blkOk_by (own := [("arg", 7)]) (N := N_Looking_wrong_call) (sc := defScope s_Looking_wrong_call) (by decide +kernel)) (fun _ _ _ _ _ => (pg_name (i := 7) sc_Looking_wrong_call.nd rfl (Or.inl rfl))) (fun _ _ _ _ _ => pts_nil) (fun _ _ _ _ _ => (pe_callB (call_isiK' (K := K)) (by rfl) T.n_isinstance (by decide +kernel) (pa_cons (pv 7) (pa_cons (pe_bltn (v := .ty "tuple") (by rfl) T.n_tuple (by decide +kernel) rfl) pa_nil))))) pa_nil)))))))
        (pss_one (ps_ret pe_str))
        pss_nil)
      (pss_one (ps_ret (pe_ifExp (pt_cmpR op_eq (pv 6) (pv 3) (nomark _)) pe_non pe_str)))))), ?_⟩
    obtain ⟨dx, fd, hd, fkv, hkv, ex, ef, kf, eh, kh⟩ := hL
    obtain ⟨v, hv, dv⟩ := kh.at.1 _ (own_find hf)
    obtain ⟨e, u1, u2, u3, rfl, hTe, g1, g2, g3⟩ := Td.i3 dv
    obtain rfl := g1.strI
    obtain rfl := g3.strI
    obtain ⟨ka, kv, rfl, hka, hkv'⟩ := g2.inv
    obtain ⟨c, cs, rfl, hc, tc⟩ := dc.inv
    have hcl : cs.length = args.length := by rw [tc.len, List.length_map]
    have hkl : kv.length = args.length := by rw [hkv'.len, List.length_map]; exact hpl
    have hg : DGet H hd (.str f) (some (.ref e)) := by
      rw [← hv]
      exact DGet.k (k := .inr f) eh
    refine ⟨_, rfl, _, rfl, x, LkC K, dx, _, .ref hd, rfl, ex, T.cl_Looking, T.na_heads, rfl, hd, some (.ref e), rfl, hg, _, rfl, ifF rfl ?_⟩
    refine ⟨_, rfl, x, LkC K, dx, _, .ref hd, rfl, ex, T.cl_Looking, T.na_heads, rfl, _, rfl, hd, .ref e, rfl, hg, e, _, rfl, hTe.sq, rfl, _, _, rfl, _, _, rfl, _, _, rfl, rfl, ?_⟩
    refine ⟨_, rfl, c, cs, rfl, .inr hc.sq, _, rfl, ka, kv, rfl, .inr hka.sq, ?_⟩
    refine ⟨rfl, _, rfl, ifF (show (!decide (V.int (cs.length : Int) = V.int (kv.length : Int))) = false by rw [hcl, hkl]; simp) ?_⟩
    refine ⟨_, rfl, c, rfl, ⟨cs, hc.sq⟩, fun D nD => lc_it (walk_tup (K := K) (a := c) (xs := cs)) (fun i H' => Same H H' ∧ ∃ bs : List Bool, H' D = some (.lst (bs.map .bl)) ∧ bs.all id = true ∧ bs.length = i) ⟨same_new nD, [], upd_same, rfl, rfl⟩ (fun i H' _ hP => (hc.mono (tk hP.1)).sq) (fun i y Hz Hb hi hP hY => ?_) (fun Ha hP => ?_)⟩
    · obtain ⟨sa, bs, ea, hb, hl⟩ := hP
      obtain ⟨rfl, hx⟩ := hY
      obtain ⟨dd, hdd, dx'⟩ := (tc.mono (tk sa)).getV hx
      obtain ⟨t, ht, rfl⟩ := map_at hdd
      obtain ⟨ty, hty, hk⟩ := tm_ty dx'
      rw [hT t (List.mem_of_getElem? ht)] at hk
      refine ⟨rfl, _, rfl, _, .ty "tuple", _, _, _, rfl, .ty "tuple", hty, hk, bs.map .bl, ea, ?_, smut sa nD, bs ++ [true], ?_, ?_, ?_⟩
      · rw [List.length_map]
        exact lzl (by omega)
      · rw [upd_same, List.map_append]
        rfl
      · rw [List.all_append, hb]
        rfl
      · rw [List.length_append, hl]
        rfl
    · obtain ⟨sa, bs, ea, hb, hl⟩ := hP
      refine ⟨D, bs, rfl, .inl (.inl ea), _, rfl, ifF (by rw [hb]; rfl) ?_⟩
      refine ⟨_, rfl, _, rfl, rfl, _, rfl, ?_⟩
      rw [decV]
      have hq := q Ha sa
      by_cases h : p.2.2 = k
      · rw [if_pos h] at hq
        exact ifT (decide_eq_true h) hq
      · rw [if_neg h] at hq
        exact ifF (decide_eq_false h) hq
end K27

set_option maxHeartbeats 8000000
namespace K27
open PySem PySem.Spec PyProof.Rows L2
variable {P : Program} {w : World} {K : PySem.W.Frag} {mg : Str → Option Value} {base : Heap}
/-! ### the items and the things in pairs -/
def bothD (q : Item × Tm) : PyData := .tuple [q.1.data, q.2.data]
theorem both_laid {H : Hp} : ∀ {is : List Item} {us : List Tm} {xs ys : List V} {ts : List Addr}, Tds K H xs (is.map Item.data) → Tds K H ys (us.map Tm.data) → Paired (fun (t : Addr) (q : V × V) => H t = some (.tup [q.1, q.2])) ts (xs.zip ys) → Tds K H (ts.map V.ref) ((is.zip us).map bothD)
  | [], _, xs, ys, ts, h1, h2, h3 => by
    cases h1.nil_inv
    cases h3
    exact .nil
  | _ :: _, [], xs, ys, ts, h1, h2, h3 => by
    cases h2.nil_inv
    rw [List.zip_nil_right] at h3
    cases h3
    rw [List.zip_nil_right]
    exact .nil
  | i :: is, u :: us, xs, ys, ts, h1, h2, h3 => by
    obtain ⟨x, xs', rfl, a1, a2⟩ := h1.cons_inv
    obtain ⟨y, ys', rfl, b1, b2⟩ := h2.cons_inv
    rw [List.zip_cons_cons] at h3
    cases h3 with
    | cons c1 c2 => exact .cons (.at c1 (.cons a1 (.cons b1 .nil))) (both_laid a2 b2 c2)
/-- a pair of the list -/
theorem both_at {H : Hp} {vs : List V} {l : List (Item × Tm)} (h : Tds K H vs (l.map bothD)) {i : Nat} {x : V} (e : vs[i]? = some x) : ∃ q a v1 v2, l[i]? = some q ∧ x = .ref a ∧ Tu K H a [v1, v2] ∧ Td K H v1 q.1.data ∧ Td K H v2 q.2.data := by
  obtain ⟨d, hd, dx⟩ := h.getV e
  obtain ⟨q, hq, rfl⟩ := map_at hd
  obtain ⟨a, v1, v2, rfl, hT, k1, k2⟩ := Td.i2 dx
  exact ⟨q, a, v1, v2, hq, rfl, hT, k1, k2⟩
theorem bind_names {l : List (Item × Tm)} (h : l.all fits = true) : (l.filter fun q => decide (q.1.tag = ("name" : Str))).map (fun q => q.2) = (binds l).map fun p => Tm.nm p.1 := by
  induction l with
  | nil => rfl
  | cons q l ih =>
    rw [List.all_cons, Bool.and_eq_true] at h
    have ih := ih h.2
    obtain ⟨it, t⟩ := q
    unfold binds at *
    rw [List.filter_cons, List.filterMap_cons]
    cases it with
    | sign s => cases t <;> first | exact ih | cases h.1
    | lit => cases t <;> first | exact ih | cases h.1
    | term k os => cases t <;> first | exact ih | cases h.1
    | name k =>
      cases t with
      | nm x =>
        show Tm.nm x :: _ = Tm.nm x :: _
        rw [← ih]
      | _ => cases h.1
def spWrongUse (K : PySem.W.Frag) : Sp := fun vs H Q _ => ∃ (x : Addr) (tv : V) (k own hh : Str) (ths : List Tm) (tw : List It) (fo : Form × PyData), vs = [.ref x, tv, .str k] ∧ Lk K H x tw own ∧ Td K H tv (Tm.use own hh ths).data ∧ (tongueOf tw own).forms.find? (fun q => decide (q.1.head = hh)) = some fo ∧ fo.1.items.length ≤ 7 ∧
  fo.1.dues.length = ths.length ∧ (fo.1.dues.zip ths).all fits = true ∧ (fo.1.dues.zip ths).all litOk = true ∧ bindOk (binds (fo.1.dues.zip ths)) = true ∧ ∀ H', Same H H' → Q (if fo.1.kind = k then .non else .str "kind") H'
abbrev N_Looking_wrong_use : List Str := ["self", "use", "due", "word", "tongue", "head", "things", "form", "both", "names", "item", "thing", "x"]
theorem sc_Looking_wrong_use : FnScope N_Looking_wrong_use ["self", "use", "due"] (defScope s_Looking_wrong_use) := ⟨rfl, rfl, rfl, by decide +kernel, rfl, by decide +kernel, by decide +kernel⟩
theorem ok_Looking_wrong_use (T : TX K mg) : OkM P w K mg base CX0 3 "wrong_use" ["self", "use", "due"] (spWrongUse K) := by
  refine OkM.mk' T.f_Looking_wrong_use sc_Looking_wrong_use (fun vs H Q E h => ?_) (fun _ _ _ _ _ _ us hl => match us, hl with | [_, _, _], _ => rfl) (fun cdv A outer s H vs Q E hr h => ?_)
  · obtain ⟨x, tv, k, own, hh, ths, tw, fo, rfl, _⟩ := h
    rfl
  · obtain ⟨x, tv, k, own, hh, ths, tw, fo, rfl, hL, dt, hfo, hil, hlen, hfit, hlit, hbi, q⟩ := h
    have hu := hu_of hr
    obtain ⟨tm, em⟩ := T.c_MOST_NUMBER
    refine ⟨_, (pss_cons (ps_asg (pv 1) (pg_tup rfl (pgs_cons (pg_name (i := 3) sc_Looking_wrong_use.nd rfl (.inl rfl)) (pgs_cons (pg_name (i := 4) sc_Looking_wrong_use.nd rfl (.inl rfl)) (pgs_cons (pg_name (i := 5) sc_Looking_wrong_use.nd rfl (.inl rfl)) (pgs_cons (pg_name (i := 6) sc_Looking_wrong_use.nd rfl (.inl rfl)) pgs_nil))))))
      (pss_cons (ps_if (PW.pt (pw_or (pt_cmpR op_ne (pv 4) (pe_fld (pv 0) rfl) (nomark _)) (pw_or1 (pt_cmp (pc_dnotin hu (pv 5) (pe_fld (pv 0) rfl)) rfl))))
        (pss_one (ps_ret pe_str))
        pss_nil)
      (pss_cons (ps_set (i := 7) sc_Looking_wrong_use.nd rfl (Or.inl rfl) (pe_dget hu (pe_fld (pv 0) rfl) (pv 5) (fun _ _ => rfl)))
      (pss_cons (ps_set (i := 8) sc_Looking_wrong_use.nd rfl (Or.inl rfl) (K27Z.pe_lzip rfl (by rfl) T.n_list (by rfl) T.n_zip (pa_cons (pe_ok (ok_things_due T) hr (by decide) (by rfl) (pa_cons (pv 7) pa_nil) pass0) (pa_cons (pv 6) pa_nil))))
      (pss_cons (ps_if (PW.pt (pw_or (pt_cmpR op_ne (pe_callB call_len_seq (by rfl) T.n_len PySem.boot_len (pa_cons (pe_ok (ok_things_due T) hr (by decide) (by rfl) (pa_cons (pv 7) pa_nil) pass0) pa_nil)) (pe_callB call_len_seq (by rfl) T.n_len PySem.boot_len (pa_cons (pv 6) pa_nil)) (nomark _)) (pw_or1 (pt_not (pt_val (pe_callB (cr_all rfl) (by rfl) T.n_all (by decide +kernel) (pa_cons (pe_lc (own := [("item", 10), ("thing", 11)]) (g := gTup K 2 (gCons (gName 10) (gCons (gName 11) gNil))) (tt := tYes) (by rfl) sc_Looking_wrong_use.nd (pi_list (pv 8)) (blkOk_by (own := [("item", 10), ("thing", 11)]) (N := N_Looking_wrong_use) (sc := defScope s_Looking_wrong_use) (by decide +kernel)) (fun _ _ _ _ _ => (pg_tup rfl (pgs_cons (pg_name (i := 10) sc_Looking_wrong_use.nd rfl (Or.inl rfl)) (pgs_cons (pg_name (i := 11) sc_Looking_wrong_use.nd rfl (Or.inl rfl)) pgs_nil)))) (fun _ _ _ _ _ => pts_nil) (fun _ _ _ _ _ => (pe_ok (ok_is_of_sort T) hr (by decide) (by rfl) (pa_cons (pv 10) (pa_cons (pv 11) pa_nil)) pass0))) pa_nil)))))))
        (pss_one (ps_ret pe_str))
        pss_nil)
      (pss_cons (ps_if (pt_not (pt_val (pe_callB (cr_all rfl) (by rfl) T.n_all (by decide +kernel) (pa_cons (pe_lc (own := [("item", 10), ("thing", 11)]) (g := gTup K 2 (gCons (gName 10) (gCons (gName 11) gNil))) (by rfl) sc_Looking_wrong_use.nd (pi_list (pv 8)) (blkOk_by (own := [("item", 10), ("thing", 11)]) (N := N_Looking_wrong_use) (sc := defScope s_Looking_wrong_use) (by decide +kernel)) (fun _ _ _ _ _ => (pg_tup rfl (pgs_cons (pg_name (i := 10) sc_Looking_wrong_use.nd rfl (Or.inl rfl)) (pgs_cons (pg_name (i := 11) sc_Looking_wrong_use.nd rfl (Or.inl rfl)) pgs_nil)))) (fun _ _ _ _ _ => pts_one (pt_cmpR op_eq (pe_ix (ix_tupK (K := K)) (pv 10) pe_int (fun _ _ => rfl)) pe_str (nomark _))) (fun _ _ _ _ _ => (pe_chain op_le op_le pe_int (pv 11) (pe_glob (v := .int 999) (by rfl) em ⟨tm, rfl⟩)))) pa_nil))))
        (pss_one (ps_ret pe_str))
        pss_nil)
      (pss_cons (ps_setLc (i := 9) (own := [("item", 10), ("thing", 11)]) (g := gTup K 2 (gCons (gName 10) (gCons (gName 11) gNil))) (by rfl) sc_Looking_wrong_use.nd rfl rfl (sw_true rfl rfl rfl (by decide +kernel)) (pi_list (pv 8)) (blkOk_by (own := [("item", 10), ("thing", 11)]) (N := N_Looking_wrong_use) (sc := defScope s_Looking_wrong_use) (by decide +kernel)) (fun _ _ _ _ _ => (pg_tup rfl (pgs_cons (pg_name (i := 10) sc_Looking_wrong_use.nd rfl (Or.inl rfl)) (pgs_cons (pg_name (i := 11) sc_Looking_wrong_use.nd rfl (Or.inl rfl)) pgs_nil)))) (fun _ _ _ _ _ => pts_one (pt_cmpR op_eq (pe_ix (ix_tupK (K := K)) (pv 10) pe_int (fun _ _ => rfl)) pe_str (nomark _))) (fun _ _ _ _ _ => (pv 11)))
      (pss_cons (ps_if (PW.pt (pw_or (pt_not (pt_val (pe_callB (cr_all rfl) (by rfl) T.n_all (by decide +kernel) (pa_cons (pe_lc (own := [("x", 12)]) (g := gName 12) (tt := tYes) (by rfl) sc_Looking_wrong_use.nd (pi_list (pv 9)) (blkOk_by (own := [("x", 12)]) (N := N_Looking_wrong_use) (sc := defScope s_Looking_wrong_use) (by decide +kernel)) (fun _ _ _ _ _ => (pg_name (i := 12) sc_Looking_wrong_use.nd rfl (Or.inl rfl))) (fun _ _ _ _ _ => pts_nil) (fun _ _ _ _ _ => (pe_ok (ok_is_name T) hr (by decide) (by rfl) (pa_cons (pv 12) pa_nil) pass0))) pa_nil)))) (pw_or1 (pt_cmpR op_lt (K27S.pe_lenSetN rfl (by rfl) T.n_len (by rfl) T.n_set (pv 9)) (pe_callB call_len_seq (by rfl) T.n_len PySem.boot_len (pa_cons (pv 9) pa_nil)) (nomark _)))))
        (pss_one (ps_ret pe_str))
        pss_nil)
      (pss_one (ps_ret (pe_ifExp (pt_cmpR op_eq (pe_ix ix_tup (pv 7) pe_int (fun _ _ => rfl)) (pv 2) (nomark _)) pe_non pe_str))))))))))), ?_⟩
    obtain ⟨dx, fd, hd, fkv, hkv, ex, ef, kf, eh, kh⟩ := hL
    obtain ⟨fv, hfv, dfv⟩ := kf.at.1 _ hfo
    have dfo := dfv
    obtain ⟨fa, u1, u2, u3, u4, rfl, hFa, g1, g2, g3, g4⟩ := Td.i4 dfv
    obtain rfl := g3.strI
    clear g1 g2 g4
    unfold Tm.data at dt
    rw [dataL_map] at dt
    obtain ⟨a, v1, v2, v3, v4, rfl, hT, t1, t2, t3, t4⟩ := Td.i4 dt
    obtain rfl := t1.strI
    obtain rfl := t2.strI
    obtain rfl := t3.strI
    obtain ⟨c, cs, rfl, hc, tc⟩ := t4.inv
    have hcl : cs.length = ths.length := by rw [tc.len, List.length_map]
    have hdl : fo.1.dues.length ≤ 7 := Nat.le_trans (List.length_filter_le _ _) hil
    have hg : DGet H fd (.str hh) (some (.ref fa)) := by
      rw [← hfv]
      exact DGet.k (k := .inr hh) ef
    refine ⟨_, rfl, a, _, rfl, hT.sq, rfl, _, _, rfl, _, _, rfl, _, _, rfl, _, _, rfl, rfl, ?_⟩
    refine ⟨_, rfl, _, rfl, x, LkC K, dx, _, .str own, rfl, ex, T.cl_Looking, T.na_tongue, rfl, rfl, _, rfl, ?_⟩
    rw [decV]
    refine ifF (show (!decide (own = own)) = false by simp) ⟨_, rfl, _, rfl, x, LkC K, dx, _, .ref fd, rfl, ex, T.cl_Looking, T.na_forms, rfl, fd, some (.ref fa), rfl, hg, _, rfl, ifF rfl ?_⟩
    refine ⟨_, rfl, x, LkC K, dx, _, .ref fd, rfl, ex, T.cl_Looking, T.na_forms, rfl, _, rfl, fd, .ref fa, rfl, hg, ?_⟩
    refine ⟨_, rfl, .ref fa, fo, rfl, dfo, hil, fun p1 H1 ds s1 n1 e1 td1 => ⟨_, rfl, p1, c, ds, cs, rfl, .inl (.inl e1), (hc.mono (tk s1)).sq, ?_, fun H2 p2 ts s12 n2 nts hp2 e2 hpa => ?_⟩⟩
    · rw [td1.len, List.length_map, hcl, hlen]
    have s2 : Same H H2 := s1.trans s12
    have tb : Tds K H2 (ts.map V.ref) ((fo.1.dues.zip ths).map bothD) := both_laid (td1.mono (tk s12)) (tc.mono (tk s2)) hpa
    have hbl : (ts.map V.ref).length = (fo.1.dues.zip ths).length := by rw [tb.len, List.length_map]
    have hz7 : (fo.1.dues.zip ths).length ≤ 7 := by rw [List.length_zip]; omega
    generalize hvs : ts.map V.ref = vs at tb hbl e2
    clear hpa hvs td1 e1 n1 nts hp2
    refine ⟨_, rfl, .ref fa, fo, rfl, dfo.mono (tk s2), hil, fun p3 H3 ds3 s3 n3 e3 td3 => ⟨p3, ds3, rfl, .inl (.inl (.inl e3)), _, rfl, c, cs, rfl, .inr ((hc.mono (tk (s2.trans s3))).sq), ?_⟩⟩
    have hd3 : ds3.length = cs.length := by rw [td3.len, List.length_map, hcl, hlen]
    refine ⟨rfl, _, rfl, ifF (show (!decide (V.int (ds3.length : Int) = V.int (cs.length : Int))) = false by rw [hd3]; simp) ?_⟩
    have e23 := s3 _ _ e2
    have tb3 := tb.mono (tk s3)
    have s03 := s2.trans s3
    clear e3 td3 n3 n2 e2 tb
    -- the sorts
    refine ⟨_, rfl, p2, rfl, ⟨vs, .inl (.inl e23)⟩, fun D nD => lc_it (walk_list (K := K) (a := p2) (xs := vs)) (fun i H' => Same H3 H' ∧ ∃ bs : List Bool, H' D = some (.lst (bs.map .bl)) ∧ bs.all id = true ∧ bs.length = i) ⟨same_new nD, [], upd_same, rfl, rfl⟩ (fun i H' _ hP => .inl (.inl (hP.1 _ _ e23))) (fun i y Hz Hb hi hP hY => ?_) (fun H4 hP => ?_)⟩
    · obtain ⟨sa, bs, ea, hb, hl⟩ := hP
      obtain ⟨rfl, hx⟩ := hY
      obtain ⟨q0, a', w1, w2, hq0, rfl, hTa, d1, d2⟩ := both_at (tb3.mono (tk sa)) hx
      have hf0 := List.all_eq_true.mp hfit _ (List.mem_of_getElem? hq0)
      refine ⟨a', _, rfl, hTa.sq, rfl, _, _, rfl, _, _, rfl, rfl, rfl, _, rfl, _, rfl, w1, w2, q0.1, q0.2, rfl, d1, d2, hf0, bs.map .bl, ea, ?_, smut sa nD, bs ++ [true], ?_, ?_, ?_⟩
      · rw [List.length_map]
        exact lzl (by omega)
      · rw [upd_same, List.map_append]
        rfl
      · rw [List.all_append, hb]
        rfl
      · rw [List.length_append, hl]
        rfl
    obtain ⟨s34, bs, ea, hb, hl⟩ := hP
    refine ⟨D, bs, rfl, .inl (.inl ea), _, rfl, ifF (by rw [hb]; rfl) ?_⟩
    have e24 := s34 _ _ e23
    have tb4 := tb3.mono (tk s34)
    have s04 := s03.trans s34
    clear ea hb hl bs nD e23 tb3 s03 s34 D
    -- the numbers
    refine ⟨_, rfl, p2, rfl, ⟨vs, .inl (.inl e24)⟩, fun D nD => lc_it (walk_list (K := K) (a := p2) (xs := vs)) (fun i H' => Same H4 H' ∧ ∃ bs : List Bool, H' D = some (.lst (bs.map .bl)) ∧ bs.all id = true ∧ bs.length ≤ i) ⟨same_new nD, [], upd_same, rfl, Nat.le_refl _⟩ (fun i H' _ hP => .inl (.inl (hP.1 _ _ e24))) (fun i y Hz Hb hi hP hY => ?_) (fun H5 hP => ?_)⟩
    · obtain ⟨sa, bs, ea, hb, hl⟩ := hP
      obtain ⟨rfl, hx⟩ := hY
      obtain ⟨q0, a', w1, w2, hq0, rfl, hTa, d1, d2⟩ := both_at (tb4.mono (tk sa)) hx
      have hf0 := List.all_eq_true.mp hfit _ (List.mem_of_getElem? hq0)
      have hl0 := List.all_eq_true.mp hlit _ (List.mem_of_getElem? hq0)
      obtain ⟨a2, rest, rfl, hT2, _⟩ := Item.fields d1
      refine ⟨a', _, rfl, hTa.sq, rfl, _, _, rfl, _, _, rfl, rfl, rfl, _, rfl, a2, _, 0, .str q0.1.tag, rfl, rfl, hT2.sq, at_of (j := 0) rfl rfl, rfl, _, rfl, ?_⟩
      rw [decV]
      obtain ⟨it, t⟩ := q0
      cases it with
      | lit =>
        cases t with
        | num j =>
          obtain rfl := (show w2 = .int j from Td.intI d2)
          have hj : (decide (0 ≤ j) && decide (j ≤ 999)) = true := hl0
          simp only [Bool.and_eq_true, decide_eq_true_eq] at hj
          refine ifT (show decide (("lit" : Str) = "lit") = true by decide +kernel) ⟨_, rfl, _, _, rfl, rfl, _, rfl, ?_⟩
          rw [decide_eq_true hj.1, if_pos rfl]
          refine ⟨_, _, rfl, rfl, bs.map .bl, ea, ?_, smut sa nD, bs ++ [true], ?_, ?_, ?_⟩
          · rw [List.length_map]
            exact lzl (by omega)
          · rw [upd_same, List.map_append]
            show some (HO.lst (bs.map V.bl ++ [V.bl (decide (j ≤ 999))])) = _
            rw [decide_eq_true hj.2]
            rfl
          · rw [List.all_append, hb]
            rfl
          · rw [List.length_append]
            exact Nat.succ_le_succ hl
        | _ => cases hf0
      | sign z => cases t <;> cases hf0
      | name z => exact ifF (show decide (("name" : Str) = "lit") = false by decide +kernel) ⟨sa, bs, ea, hb, Nat.le_succ_of_le hl⟩
      | term z os => exact ifF (show decide (("term" : Str) = "lit") = false by decide +kernel) ⟨sa, bs, ea, hb, Nat.le_succ_of_le hl⟩
    obtain ⟨s45, bs, ea, hb, hl⟩ := hP
    refine ⟨D, bs, rfl, .inl (.inl ea), _, rfl, ifF (by rw [hb]; rfl) ?_⟩
    have e25 := s45 _ _ e24
    have tb5 := tb4.mono (tk s45)
    have s05 := s04.trans s45
    clear ea hb hl bs nD e24 tb4 s04 s45 D
    -- the names
    refine ⟨_, rfl, p2, rfl, ⟨vs, .inl (.inl e25)⟩, fun D nD => lc_it (walk_list (K := K) (a := p2) (xs := vs)) (fun i H' => Same H5 H' ∧ H' D = some (.lst ((binds ((fo.1.dues.zip ths).take i)).map fun p => V.str p.1))) ⟨same_new nD, upd_same⟩ (fun i H' _ hP => .inl (.inl (hP.1 _ _ e25))) (fun i y Hz Hb hi hP hY => ?_) (fun H6 hP => ?_)⟩
    · obtain ⟨sa, ea⟩ := hP
      obtain ⟨rfl, hx⟩ := hY
      obtain ⟨q0, a', w1, w2, hq0, rfl, hTa, d1, d2⟩ := both_at (tb5.mono (tk sa)) hx
      have hf0 := List.all_eq_true.mp hfit _ (List.mem_of_getElem? hq0)
      obtain ⟨a2, rest, rfl, hT2, _⟩ := Item.fields d1
      have keep : binds ((fo.1.dues.zip ths).take (i + 1)) = binds ((fo.1.dues.zip ths).take i) ++ binds [q0] := by
        rw [take_succ' hq0]
        unfold binds
        rw [List.filterMap_append]
      refine ⟨a', _, rfl, hTa.sq, rfl, _, _, rfl, _, _, rfl, rfl, rfl, _, rfl, a2, _, 0, .str q0.1.tag, rfl, rfl, hT2.sq, at_of (j := 0) rfl rfl, rfl, _, rfl, ?_⟩
      rw [decV, keep]
      obtain ⟨it, t⟩ := q0
      cases it with
      | name z =>
        cases t with
        | nm nx =>
          obtain rfl := (show w2 = .str nx from Td.strI d2)
          refine ifT (show decide (("name" : Str) = "name") = true by decide +kernel) ⟨_, rfl, _, ea, ?_, smut sa nD, ?_⟩
          · rw [List.length_map]
            have h1 := List.length_filterMap_le bindOf ((fo.1.dues.zip ths).take i)
            rw [List.length_take] at h1
            exact lzl (by unfold binds; omega)
          · rw [upd_same, List.map_append]
            rfl
        | _ => cases hf0
      | sign z => cases t <;> cases hf0
      | lit =>
        refine ifF (show decide (("lit" : Str) = "name") = false by decide +kernel) ⟨sa, ?_⟩
        have : binds [(Item.lit, t)] = [] := by cases t <;> rfl
        rw [this, List.append_nil]
        exact ea
      | term z os =>
        refine ifF (show decide (("term" : Str) = "name") = false by decide +kernel) ⟨sa, ?_⟩
        have : binds [(Item.term z os, t)] = [] := by cases t <;> rfl
        rw [this, List.append_nil]
        exact ea
    obtain ⟨s56, eN⟩ := hP
    rw [show (fo.1.dues.zip ths).take vs.length = fo.1.dues.zip ths from List.take_of_length_le (by omega)] at eN
    have s06 := s05.trans s56
    clear e25 tb5 s05 s56 nD
    have hbl7 : (binds (fo.1.dues.zip ths)).length ≤ 7 := by
      have h1 := List.length_filterMap_le bindOf (fo.1.dues.zip ths)
      unfold binds
      omega
    generalize hB : binds (fo.1.dues.zip ths) = B at hbi eN hbl7
    unfold bindOk at hbi
    simp only [Bool.and_eq_true, decide_eq_true_eq] at hbi
    obtain ⟨hbn, hbd⟩ := hbi
    have hlm : (B.map fun p => V.str p.1).length = B.length := List.length_map _
    refine ⟨_, rfl, D, rfl, ⟨_, .inl (.inl eN)⟩, fun D2 nD2 => lc_it (walk_list (K := K) (a := D) (xs := B.map fun p => V.str p.1)) (fun i H' => Same H6 H' ∧ ∃ bs : List Bool, H' D2 = some (.lst (bs.map .bl)) ∧ bs.all id = true ∧ bs.length = i) ⟨same_new nD2, [], upd_same, rfl, rfl⟩ (fun i H' _ hP => .inl (.inl (hP.1 _ _ eN))) (fun i y Hz Hb hi hP hY => ?_) (fun H7 hP => ?_)⟩
    · obtain ⟨sa, bs, ea, hb, hl⟩ := hP
      obtain ⟨rfl, hx⟩ := hY
      rw [List.getElem?_map] at hx
      obtain ⟨p, hp, rfl⟩ := Option.map_eq_some_iff.mp hx
      have hpn := List.all_eq_true.mp hbn p (List.mem_of_getElem? hp)
      refine ⟨rfl, _, rfl, p.1, rfl, hpn, fun H' sx => ⟨bs.map .bl, sx _ _ ea, ?_, smut (sa.trans sx) nD2, bs ++ [true], ?_, ?_, ?_⟩⟩
      · rw [List.length_map]
        exact lzl (by omega)
      · rw [upd_same, List.map_append]
        rfl
      · rw [List.all_append, hb]
        rfl
      · rw [List.length_append, hl]
        rfl
    obtain ⟨s67, bs, ea, hb, hl⟩ := hP
    have eN7 := s67 _ _ eN
    have hmm : (B.map fun p => V.str p.1) = (B.map (·.1)).map V.str := by rw [List.map_map]; rfl
    refine ⟨D2, bs, rfl, .inl (.inl ea), _, rfl, ifF (by rw [hb]; rfl) ?_⟩
    refine ⟨_, rfl, D, B.map (·.1), rfl, .inl (.inl (by rw [← hmm]; exact eN7)), hbd, by rw [List.length_map]; omega, _, rfl, D, _, rfl, .inl (.inl (.inl eN7)), _, _, rfl, rfl, _, rfl, ifF (by rw [List.length_map, List.length_map]; simp) ?_⟩
    have s07 := s06.trans s67
    refine ⟨_, rfl, fa, _, 2, .str fo.1.kind, rfl, rfl, (hFa.mono (tk s07)).sq, at_of (j := 2) rfl rfl, _, rfl, rfl, _, rfl, ?_⟩
    rw [decV]
    have hq := q H7 s07
    by_cases h : fo.1.kind = k
    · rw [if_pos h] at hq
      exact ifT (decide_eq_true h) hq
    · rw [if_neg h] at hq
      exact ifF (decide_eq_false h) hq
end K27

set_option maxHeartbeats 8000000
namespace K27
open PySem PySem.Spec PyProof.Rows L2
variable {P : Program} {w : World} {K : PySem.W.Frag} {mg : Str → Option Value} {base : Heap}
/-! ### parts that are right but for a kind or a name -/
abbrev LL (tw : List It) (own : Str) : Lang := langT (tongueOf tw own) (headsOf tw own)
def Fine (L : Lang) (e : Entry) : Prop := isT e.1 = true ∧ (wrong L e = none ∨ wrong L e = some ("kind" : Str) ∨ wrong L e = some ("lost" : Str))
theorem things_word {L : Lang} {t : Tm} {x : Str} (h : wrongThings L t = some x) : x = "many" ∨ x = "lit" ∨ x = "bind" := by
  unfold wrongThings at h
  split at h
  · cases h; exact .inl rfl
  · split at h
    · cases h; exact .inr (.inl rfl)
    · split at h
      · cases h; exact .inr (.inr rfl)
      · cases h
def isNameTm : Tm → Bool
  | .name _ => true
  | _ => false
theorem fine_other {L : Lang} {t : Tm} {r : Sg} {k : Str} (h : Fine L (t, r, k)) (hn : isNameTm t = false) : ∃ d, wrong L (t, r, d) = none ∧ wrong L (t, r, k) = if d = k then none else some ("kind" : Str) := by
  obtain ⟨ht, h⟩ := h
  have no : ∀ {x : Str}, (some x = none ∨ some x = some ("kind" : Str) ∨ some x = some ("lost" : Str)) → x ≠ "kind" → x ≠ "lost" → False := fun {x} h a b => by
    rcases h with h | h | h
    · cases h
    · exact a (Option.some.inj h)
    · exact b (Option.some.inj h)
  have no3 : ∀ {x : Str}, (some x = none ∨ some x = some ("kind" : Str) ∨ some x = some ("lost" : Str)) → (x = "many" ∨ x = "lit" ∨ x = "bind") → False := fun {x} h c => by
    rcases c with rfl | rfl | rfl <;> exact no h (by decide) (by decide)
  unfold wrong at h ⊢
  cases t with
  | num i => cases ht
  | nm i => cases ht
  | name x => cases hn
  | call f a =>
    simp only at h ⊢
    cases hq : L.head f with
    | none => rw [hq] at h; exact (no h (by decide) (by decide)).elim
    | some p =>
      rw [hq] at h
      simp only at h ⊢
      cases hw : wrongThings L (.call f a) with
      | some x => rw [hw] at h; exact (no3 h (things_word hw)).elim
      | none => exact ⟨p.2.2, by simp, rfl⟩
  | use t' f a =>
    simp only at h ⊢
    by_cases e : t' = L.name
    · rw [if_pos e] at h
      simp only [if_pos e]
      cases hq : L.form f with
      | none => rw [hq] at h; exact (no h (by decide) (by decide)).elim
      | some p =>
        rw [hq] at h
        simp only at h ⊢
        cases hw : wrongThings L (.use t' f a) with
        | some x => rw [hw] at h; exact (no3 h (things_word hw)).elim
        | none => exact ⟨p.kind, by simp, rfl⟩
    · rw [if_neg e] at h
      exact (no h (by decide) (by decide)).elim
/-- the word, or none -/
def wordV : Option Str → V
  | none => .non
  | some x => .str x
theorem wordV_if {d k : Str} : wordV (if d = k then none else some ("kind" : Str)) = if d = k then V.non else V.str "kind" := by
  split <;> rfl
theorem form_find {T : Tongue} {hs : List Hd} {h : Str} {f : Form} (hf : (langT T hs).form h = some f) : ∃ fo, T.forms.find? (fun q => decide (q.1.head = h)) = some fo ∧ fo.1 = f := by
  have h1 : (T.forms.map (·.1)).find? (fun f => decide (f.head = h)) = some f := hf
  rw [List.find?_map] at h1
  obtain ⟨fo, h2, h3⟩ := Option.map_eq_some_iff.mp h1
  exact ⟨fo, h2, h3⟩
theorem wrong_call_kind {L : Lang} {f : Str} {args : List Tm} {r : Sg} {k : Str} {p : Str × List Str × Str} (h : wrong L (.call f args, r, k) = none) (hp : L.head f = some p) : p.2.2 = k := by
  unfold wrong at h
  simp only [hp] at h
  split at h
  · cases h
  · split at h
    · assumption
    · cases h
theorem wt_ok {L : Lang} {t : Tm} (h : wrongThings L t = none) : (both L t).all litOk = true ∧ bindOk (binds (both L t)) = true := by
  unfold wrongThings at h
  split at h
  · cases h
  · split at h
    · cases h
    · rename_i h1
      split at h
      · cases h
      · rename_i h2
        exact ⟨by simpa using h1, by simpa using h2⟩
def spWrong (K : PySem.W.Frag) : Sp := fun vs H Q _ => ∃ (x : Addr) (tv : V) (d : Addr) (kvs : List (Key × V)) (tw : List It) (own : Str) (t : Tm) (r : Sg) (k : Str), vs = [.ref x, tv, .ref d, .str k] ∧ Lk K H x tw own ∧ TwOk tw ∧ OwnOk tw own ∧ Td K H tv t.data ∧ H d = some (.dK kvs) ∧ KvE kvs r ∧
  Fine (LL tw own) (t, r, k) ∧ ∀ H', Same H H' → Q (wordV (wrong (LL tw own) (t, r, k))) H'
abbrev N_Looking_wrong : List Str := ["self", "term", "known", "due", "word", "first", "more"]
theorem sc_Looking_wrong : FnScope N_Looking_wrong ["self", "term", "known", "due"] (defScope s_Looking_wrong) := ⟨rfl, rfl, rfl, by decide +kernel, rfl, by decide +kernel, by decide +kernel⟩
theorem ok_Looking_wrong (T : TX K mg) : OkM P w K mg base CX0 4 "wrong" ["self", "term", "known", "due"] (spWrong K) := by
  refine OkM.mk' T.f_Looking_wrong sc_Looking_wrong (fun vs H Q E h => ?_) (fun _ _ _ _ _ _ us hl => match us, hl with | [_, _, _, _], _ => rfl) (fun cdv A outer s H vs Q E hr h => ?_)
  · obtain ⟨x, tv, d, kvs, tw, own, t, r, k, rfl, _⟩ := h
    rfl
  · obtain ⟨x, tv, d, kvs, tw, own, t, r, k, rfl, hL, htw, hown, dt, ed, hkE, hF, q⟩ := h
    have hu := hu_of hr
    obtain ⟨fd1, F1, b1⟩ := (ok_Looking_wrong_call (P := P) (w := w) (base := base) T).ex
    obtain ⟨fd2, F2, b2⟩ := (ok_Looking_wrong_use (P := P) (w := w) (base := base) T).ex
    refine ⟨_, (pss_cons (ps_asg (pv 1) (pg_star (k := 2) rfl (pgs_cons (pg_name (i := 4) sc_Looking_wrong.nd rfl (.inl rfl)) (pgs_cons (pg_name (i := 5) sc_Looking_wrong.nd rfl (.inl rfl)) (pgs_star (pg_name (i := 6) sc_Looking_wrong.nd rfl (.inl rfl)) pgs_nil)))))
      (pss_cons (ps_if (pt_cmpR op_eq (pv 4) pe_str (nomark _))
        (pss_cons (ps_if (pt_cmp (pc_dnotin hu (pv 5) (pv 2)) rfl)
          (pss_one (ps_ret pe_str))
          pss_nil)
        (pss_one (ps_ret (pe_ifExp (pt_cmpR op_eq (pe_dget hu (pv 2) (pv 5) (fun _ _ => rfl)) (pv 3) (nomark _)) pe_non pe_str))))
        pss_nil)
      (pss_cons (ps_if (pt_cmpR op_eq (pv 4) pe_str (nomark _))
        (pss_one (ps_ret (pe_meth (pv 0) T.cl_Looking T.me_wrong_call F1 (hr.mono (by decide)) b1 .nil pass0 (pa_cons (pv 5) (pa_cons (pe_ix ix_list (pv 6) pe_int (fun _ _ => rfl)) (pa_cons (pv 3) pa_nil))))))
        pss_nil)
      (pss_one (ps_ret (pe_meth (pv 0) T.cl_Looking T.me_wrong_use F2 (hr.mono (by decide)) b2 .nil pass0 (pa_cons (pv 1) (pa_cons (pv 3) pa_nil)))))))), ?_⟩
    obtain ⟨okT, hnm⟩ := tongueOf_ok htw hown
    have okH := heads_ok htw (own := own)
    have ht := hF.1
    cases t with
    | num i => cases ht
    | nm y => cases ht
    | name y =>
      unfold Tm.data at dt
      obtain ⟨a, v1, v2, rfl, hT, h1, h2⟩ := Td.i2 dt
      obtain rfl := h1.strI
      obtain rfl := h2.strI
      refine ⟨_, rfl, a, _, rfl, hT.sq, (show 2 ≤ 2 by decide), (show 2 ≤ 1000 by decide), fun D nD => ?_⟩
      generalize hE : upd H D _ = H1
      obtain ⟨s1, e1⟩ := mk hE nD
      clear hE
      refine ⟨_, _, rfl, _, _, rfl, _, _, rfl, rfl, ?_⟩
      refine ⟨_, rfl, rfl, _, rfl, ifT rfl ?_⟩
      have ed1 := s1 _ _ ed
      have hq := q H1 s1
      have hval := hkE.val y
      refine ⟨_, rfl, _, rfl, d, valV kvs (.inr y), rfl, DGet.k (k := .inr y) ed1, _, rfl, ?_⟩
      have hw : wrong (LL tw own) (.name y, r, k) = (match r y with | none => some "lost" | some k' => if k' = k then none else some "kind") := rfl
      rw [hw] at hq
      cases hy : r y with
      | none =>
        rw [hy] at hq hval
        rw [hval]
        exact ifT rfl hq
      | some k' =>
        rw [hy] at hq hval
        rw [hval]
        refine ifF rfl ?_
        refine ⟨_, rfl, _, rfl, d, .str k', rfl, by rw [← show valV kvs (.inr y) = some (.str k') from hval]; exact DGet.k (k := .inr y) ed1, _, rfl, rfl, _, rfl, ?_⟩
        rw [decV]
        rw [show (match (some k' : Option Str) with | none => some ("lost" : Str) | some k' => if k' = k then none else some ("kind" : Str)) = if k' = k then none else some ("kind" : Str) from rfl, wordV_if] at hq
        by_cases h : k' = k
        · rw [if_pos h] at hq
          exact ifT (decide_eq_true h) hq
        · rw [if_neg h] at hq
          exact ifF (decide_eq_false h) hq
    | call f args =>
      obtain ⟨d', hd1, hd2⟩ := fine_other hF rfl
      obtain ⟨p, hp, hpl, hpt⟩ := wrong_call_ok hd1
      have hp7 := okH.args p (List.mem_of_find?_eq_some hp)
      unfold Tm.data at dt
      rw [dataL_map] at dt
      obtain ⟨a, v1, v2, v3, rfl, hT, h1, h2, h3⟩ := Td.i3 dt
      obtain rfl := h1.strI
      obtain rfl := h2.strI
      refine ⟨_, rfl, a, _, rfl, hT.sq, (show 2 ≤ 3 by decide), (show 3 ≤ 1000 by decide), fun D nD => ?_⟩
      generalize hE : upd H D _ = H1
      obtain ⟨s1, e1⟩ := mk hE nD
      clear hE
      refine ⟨_, _, rfl, _, _, rfl, _, _, rfl, rfl, ?_⟩
      refine ⟨_, rfl, rfl, _, rfl, ifF rfl ?_⟩
      refine ⟨_, rfl, rfl, _, rfl, ifT rfl ?_⟩
      have hL1 := hL.same s1
      have hL1' := hL1
      obtain ⟨dx, fd, hd, fkv, hkv, ex, ef, kf, eh, kh⟩ := hL1'
      refine ⟨_, rfl, x, dx, _, rfl, ex, rfl, _, rfl, _, rfl, D, _, 0, v3, rfl, rfl, .inl (.inl e1), rfl, _, rfl, ?_⟩
      refine ⟨x, f, v3, k, own, tw, args, p, rfl, hL1, h3.mono (tk s1), hp, hpl, by omega, hpt, fun H' s' => ?_⟩
      have hq := q H' (s1.trans s')
      rw [hd2, wordV_if, ← wrong_call_kind hd1 hp] at hq
      exact hq
    | use t' h ths =>
      obtain ⟨d', hd1, hd2⟩ := fine_other hF rfl
      obtain ⟨f, hT', hf, hfl, hff, hbo, hwt, hfk⟩ := wrong_use_ok hd1
      obtain ⟨hli, hbi⟩ := wt_ok hwt
      rw [hbo] at hli hbi
      obtain ⟨fo, hfo, rfl⟩ := form_find hf
      have hi7 := (okT.form fo (List.mem_of_find?_eq_some hfo)).2.2.2
      have hto : t' = own := hT'.trans hnm
      subst hto
      have dt0 := dt
      unfold Tm.data at dt
      obtain ⟨a, v1, v2, v3, v4, rfl, hT, h1, h2, h3, h4⟩ := Td.i4 dt
      obtain rfl := h1.strI
      obtain rfl := h2.strI
      refine ⟨_, rfl, a, _, rfl, hT.sq, (show 2 ≤ 4 by decide), (show 4 ≤ 1000 by decide), fun D nD => ?_⟩
      generalize hE : upd H D _ = H1
      obtain ⟨s1, e1⟩ := mk hE nD
      clear hE
      refine ⟨_, _, rfl, _, _, rfl, _, _, rfl, rfl, ?_⟩
      refine ⟨_, rfl, rfl, _, rfl, ifF rfl ?_⟩
      refine ⟨_, rfl, rfl, _, rfl, ifF rfl ?_⟩
      have hL1 := hL.same s1
      have hL1' := hL1
      obtain ⟨dx, fd, hd, fkv, hkv, ex, ef, kf, eh, kh⟩ := hL1'
      refine ⟨_, rfl, x, dx, _, rfl, ex, rfl, _, rfl, _, rfl, ?_⟩
      refine ⟨x, .ref a, k, t', h, ths, tw, fo, rfl, hL1, dt0.mono (tk s1), hfo, hi7, hfl, hff, hli, hbi, fun H' s' => ?_⟩
      have hq := q H' (s1.trans s')
      rw [hd2, wordV_if, ← hfk] at hq
      exact hq
end K27

set_option maxHeartbeats 8000000
namespace K27
open PySem PySem.Spec PyProof.Rows L2
variable {P : Program} {w : World} {K : PySem.W.Frag} {mg : Str → Option Value} {base : Heap}
/-! ### one dict laid over another -/
theorem opened_over {ns : List (Str × Str)} {s : Sg} : ∀ {os : List Nat} {r r0 : Sg}, (∀ y, r y = (r0 y).or (s y)) → ∀ y, opened r ns os y = (opened r0 ns os y).or (s y) := by
  intro os
  unfold opened
  induction os with
  | nil => intro r r0 h; exact h
  | cons j os ih =>
    intro r r0 h
    rw [List.foldl_cons, List.foldl_cons]
    refine ih ?_
    cases ns[j]? with
    | none => exact h
    | some p =>
      intro y
      show (if y = p.1 then some p.2 else r y) = (if y = p.1 then some p.2 else r0 y).or (s y)
      by_cases e : y = p.1
      · rw [if_pos e, if_pos e]
        rfl
      · rw [if_neg e, if_neg e]
        exact h y
theorem foldl_over : ∀ {ps : List (Str × Str)} {r : Sg}, (ps.map (·.1)).Nodup → ∀ y, (ps.foldl (fun r p => r.up p.1 p.2) r) y = ((ps.find? fun p => decide (p.1 = y)).map (·.2)).or (r y)
  | [], r, _, y => rfl
  | p :: ps, r, h, y => by
    rw [List.map_cons, List.nodup_cons] at h
    rw [List.foldl_cons, foldl_over h.2, List.find?_cons]
    show Option.or _ (if y = p.1 then some p.2 else r y) = _
    by_cases e : p.1 = y
    · rw [decide_eq_true e, if_pos e.symm]
      have : ps.find? (fun p => decide (p.1 = y)) = none := List.find?_eq_none.mpr fun q hq hh => by
        have hh' : q.1 = y := of_decide_eq_true hh
        exact h.1 (List.mem_map.mpr ⟨q, hq, hh'.trans e.symm⟩)
      rw [this]
      rfl
    · rw [decide_eq_false e, if_neg fun z => e z.symm]
theorem kv_shape : ∀ {kvs : List (Key × V)}, (∀ p ∈ kvs, ∃ x k, p = (Sum.inr x, V.str k)) → ∃ ps : List (Str × Str), kvs = ps.map kvOf
  | [], _ => ⟨[], rfl⟩
  | p :: kvs, h => by
    obtain ⟨x, k, rfl⟩ := h p List.mem_cons_self
    obtain ⟨ps, rfl⟩ := kv_shape fun q hq => h q (List.mem_cons_of_mem _ hq)
    exact ⟨(x, k) :: ps, rfl⟩
theorem KvE.shp {kvs : List (Key × V)} {r : Sg} (h : KvE kvs r) : ∃ ps : List (Str × Str), kvs = ps.map kvOf := kv_shape h.shape
theorem valV_kvOf (y : Str) : ∀ ps : List (Str × Str), valV (ps.map kvOf) (.inr y) = ((ps.find? fun p => decide (p.1 = y)).map (·.2)).map V.str
  | [] => rfl
  | p :: ps => by
    rw [List.map_cons, List.find?_cons]
    by_cases e : p.1 = y
    · rw [decide_eq_true e, valV_pos (by rw [← e])]
      rfl
    · rw [decide_eq_false e, valV_neg (fun z => e (Sum.inr.inj z)), valV_kvOf y ps]
/-- a dict of names laid over another -/
theorem KvE.over {kvs dd : List (Key × V)} {r : Sg} {ns : List (Str × Str)} {os : List Nat} (h : KvE kvs r) (h2 : KvE dd (opened (fun _ => none) ns os)) : KvE (mergeK kvs dd) (opened r ns os) := by
  obtain ⟨ps, rfl⟩ := h2.shp
  have h3 := h.merge ps
  have hn : (ps.map (·.1)).Nodup := by
    have h4 := h2.nd
    rw [List.map_map] at h4
    refine List.pairwise_map.mpr ((List.pairwise_map.mp h4).imp fun {a b} ne e => ne ?_)
    exact congrArg Sum.inr e
  have e : ps.foldl (fun r p => r.up p.1 p.2) r = opened r ns os := by
    funext y
    rw [foldl_over hn, opened_over (r0 := fun _ => none) (s := r) (r := r) (fun y => by simp)]
    congr 1
    have h4 := h2.val y
    rw [valV_kvOf] at h4
    have inj : ∀ a b : Option Str, a.map V.str = b.map V.str → a = b := fun a b e => by
      cases a <;> cases b <;> first | rfl | cases e
      rfl
    exact inj _ _ h4
  rw [← e]
  exact h3
theorem opened_len {kvs : List (Key × V)} {k : Key} {v : V} {n : Nat} (h : kvs.length ≤ n) : (putK kvs k v).length ≤ n + 1 := by
  have := putK_len kvs k v
  omega
end K27

set_option maxHeartbeats 8000000
namespace K27
open PySem PySem.Spec PyProof.Rows L2
variable {P : Program} {w : World} {K : PySem.W.Frag} {mg : Str → Option Value} {base : Heap}
def spRightIn (K : PySem.W.Frag) : Sp := fun vs H Q _ => ∃ (x : Addr) (tv : V) (d : Addr) (kvs : List (Key × V)) (tw : List It) (own : Str) (t : Tm) (r : Sg) (k : Str), vs = [.ref x, tv, .ref d] ∧ Lk K H x tw own ∧ TwOk tw ∧ OwnOk tw own ∧ Td K H tv t.data ∧ H d = some (.dK kvs) ∧ KvE kvs r ∧
  kvs.length + 2 * t.dep ≤ 200 ∧ isT t = true ∧ wrong (LL tw own) (t, r, k) = none ∧
  ∀ p H' ws, Same H H' → H p = none → H' p = some (.lst ws) → Ents K H' ws (inner (LL tw own) (t, r, k)) → Q (.ref p) H'
abbrev N_Looking_right_in : List Str := ["self", "term", "known", "tongue", "kinds", "gives", "both", "names", "found", "item", "thing", "here", "arg", "kind", "j"]
theorem sc_Looking_right_in : FnScope N_Looking_right_in ["self", "term", "known"] (defScope s_Looking_right_in) := ⟨rfl, rfl, rfl, by decide +kernel, rfl, by decide +kernel, by decide +kernel⟩
theorem ok_Looking_right_in (T : TX K mg) : OkM P w K mg base CX0 2 "right_in" ["self", "term", "known"] (spRightIn K) := by
  refine OkM.mk' T.f_Looking_right_in sc_Looking_right_in (fun vs H Q E h => ?_) (fun _ _ _ _ _ _ us hl => match us, hl with | [_, _, _], _ => rfl) (fun cdv A outer s H vs Q E hr h => ?_)
  · obtain ⟨x, tv, d, kvs, tw, own, t, r, k, rfl, _⟩ := h
    rfl
  · obtain ⟨x, tv, d, kvs, tw, own, t, r, k, rfl, hL, htw, hown, dt, ed, hkE, hkl, ht, hw, q⟩ := h
    have hu := hu_of hr
    refine ⟨_, (pss_cons (ps_if (pt_cmpR op_eq (pe_ix ix_tup (pv 1) pe_int (fun _ _ => rfl)) pe_str (nomark _))
        (pss_one (ps_ret (pe_lst pa_nil)))
        pss_nil)
      (pss_cons (ps_if (pt_cmpR op_eq (pe_ix ix_tup (pv 1) pe_int (fun _ _ => rfl)) pe_str (nomark _))
        (pss_cons (ps_asg (pe_dget hu (pe_fld (pv 0) rfl) (pe_ix ix_tup (pv 1) pe_int (fun _ _ => rfl)) (fun _ _ => rfl)) (pg_tup rfl (pgs_cons (pg_name (i := 3) sc_Looking_right_in.nd rfl (.inl rfl)) (pgs_cons (pg_name (i := 4) sc_Looking_right_in.nd rfl (.inl rfl)) (pgs_cons (pg_name (i := 5) sc_Looking_right_in.nd rfl (.inl rfl)) pgs_nil)))))
        (pss_one (ps_ret (pe_lc (own := [("arg", 12), ("kind", 13)]) (g := gTup K 2 (gCons (gName 12) (gCons (gName 13) gNil))) (tt := tYes) (by rfl) sc_Looking_right_in.nd (K27Z.pi_zipTT (by rfl) T.n_zip (pa_cons (pe_ix ix_tup (pv 1) pe_int (fun _ _ => rfl)) (pa_cons (pv 4) pa_nil))) (blkOk_by (own := [("arg", 12), ("kind", 13)]) (N := N_Looking_right_in) (sc := defScope s_Looking_right_in) (by decide +kernel)) (fun _ _ _ _ _ => (pg_tup rfl (pgs_cons (pg_name (i := 12) sc_Looking_right_in.nd rfl (Or.inl rfl)) (pgs_cons (pg_name (i := 13) sc_Looking_right_in.nd rfl (Or.inl rfl)) pgs_nil)))) (fun _ _ _ _ _ => pts_nil) (fun _ _ _ _ _ => (pe_tup (pa_cons (pv 12) (pa_cons (pv 2) (pa_cons (pv 13) pa_nil)))))))))
        pss_nil)
      (pss_cons (ps_set (i := 6) sc_Looking_right_in.nd rfl (Or.inl rfl) (K27Z.pe_lzipS rfl (by rfl) T.n_list (by rfl) T.n_zip (pa_cons (pe_ok (ok_things_due T) hr (by decide) (by rfl) (pa_cons (pe_dget hu (pe_fld (pv 0) rfl) (pe_ix ix_tup (pv 1) pe_int (fun _ _ => rfl)) (fun _ _ => rfl)) pa_nil) pass0) (pa_cons (pe_ix ix_tup (pv 1) pe_int (fun _ _ => rfl)) pa_nil))))
      (pss_cons (ps_set (i := 7) sc_Looking_right_in.nd rfl (Or.inr rfl) (pe_lc (own := [("item", 9), ("thing", 10)]) (g := gTup K 2 (gCons (gName 9) (gCons (gName 10) gNil))) (by rfl) sc_Looking_right_in.nd (pi_list (pv 6)) (blkOk_by (own := [("item", 9), ("thing", 10)]) (N := N_Looking_right_in) (sc := defScope s_Looking_right_in) (by decide +kernel)) (fun _ _ _ _ _ => (pg_tup rfl (pgs_cons (pg_name (i := 9) sc_Looking_right_in.nd rfl (Or.inl rfl)) (pgs_cons (pg_name (i := 10) sc_Looking_right_in.nd rfl (Or.inl rfl)) pgs_nil)))) (fun _ _ _ _ _ => pts_one (pt_cmpR op_eq (pe_ix (ix_tupK (K := K)) (pv 9) pe_int (fun _ _ => rfl)) pe_str (nomark _))) (fun _ _ _ _ _ => (pe_tup (pa_cons (pv 10) (pa_cons (pe_ix (ix_tupK (K := K)) (pv 9) pe_int (fun _ _ => rfl)) pa_nil))))))
      (pss_cons (ps_set (i := 8) sc_Looking_right_in.nd rfl (Or.inl rfl) (pe_lst pa_nil))
      (pss_cons (ps_for PassesOwn.never rfl (pi_list (pv 6)) (pg_tup rfl (pgs_cons (pg_name (i := 9) sc_Looking_right_in.nd rfl (.inl rfl)) (pgs_cons (pg_name (i := 10) sc_Looking_right_in.nd rfl (.inl rfl)) pgs_nil)))
        (pss_one (ps_if (pt_cmpR op_eq (pe_ix ix_tup (pv 9) pe_int (fun _ _ => rfl)) pe_str (nomark _))
          (pss_cons (ps_set (i := 11) sc_Looking_right_in.nd rfl (Or.inl rfl) (pe_callTy call_dictD (by rfl) T.n_dict (by decide +kernel) (pa_cons (pv 2) pa_nil)))
          (pss_cons (ps_expr (pe_bm PySem.F.plainAttrs_dict PySem.F.slot_dict_update PySem.F.type_dict_update mtd_update (pv 11) (pa_cons (pe_dc (own := [("j", 14)]) (g := gName 14) (tt := tYes) (by rfl) sc_Looking_right_in.nd (pi_tup (pe_ix ix_tup (pv 9) pe_int (fun _ _ => rfl))) (blkOk_by (own := [("j", 14)]) (N := N_Looking_right_in) (sc := defScope s_Looking_right_in) (by decide +kernel)) (fun _ _ _ _ _ => (pg_name (i := 14) sc_Looking_right_in.nd rfl (Or.inl rfl))) (fun _ _ _ _ _ => pts_nil) (fun _ _ _ _ _ => (pe_ix (ix_tupK (K := K)) (pe_ix (ix_listK (K := K)) (pv 7) (pv 14) (fun _ _ => rfl)) pe_int (fun _ _ => rfl))) (fun _ _ _ _ _ => (pe_ix (ix_tupK (K := K)) (pe_ix (ix_listK (K := K)) (pv 7) (pv 14) (fun _ _ => rfl)) pe_int (fun _ _ => rfl)))) pa_nil)))
          (pss_one (ps_expr (pe_bm PySem.F.plainAttrs_list PySem.F.slot_list_append PySem.F.type_list_append mt_append (pv 8) (pa_cons (pe_tup (pa_cons (pv 10) (pa_cons (pv 11) (pa_cons (pe_ix ix_tup (pv 9) pe_int (fun _ _ => rfl)) pa_nil)))) pa_nil))))))
          pss_nil)))
      (pss_one (ps_ret (pv 8))))))))), ?_⟩
    obtain ⟨okT, hnm⟩ := tongueOf_ok htw hown
    have okH := heads_ok htw (own := own)
    obtain ⟨dx, fd, hd, fkv, hkv, ex, ef, kf, eh, kh⟩ := hL
    obtain ⟨a, xs, e0, hT, hwd, _⟩ := tm_fields dt ht
    have hwdn := word_name ht
    subst e0
    refine ⟨_, rfl, a, xs, 0, .str t.word, rfl, rfl, hT.sq, at_of (j := 0) rfl hwd, rfl, _, rfl, ?_⟩
    rw [decV, hwdn]
    cases t with
    | num i => cases ht
    | nm x => cases ht
    | name y =>
      refine ifT rfl ⟨lz 0, fun p hp => ?_⟩
      exact q p _ [] (same_new hp) hp upd_same .nil
    | call f args =>
      refine ifF rfl ?_
      clear hwd hwdn
      unfold Tm.data at dt
      rw [dataL_map] at dt
      obtain ⟨b, v1, v2, v3, e1, hTt, h1, h2, h3⟩ := Td.i3 dt
      cases e1
      obtain rfl := h1.strI
      obtain rfl := h2.strI
      obtain ⟨c, cs, rfl, hc, tc⟩ := h3.inv
      obtain ⟨p, hp, hpl, hpt⟩ := wrong_call_ok hw
      refine ⟨_, rfl, a, _, 0, _, rfl, rfl, hTt.sq, rfl, rfl, _, rfl, ?_⟩
      refine ifT (show decide (V.str ("call" : Str) = V.str "call") = true by rw [decV]; decide +kernel) ?_
      have hp7 := okH.args p (List.mem_of_find?_eq_some hp)
      obtain ⟨v, hv, dv⟩ := kh.at.1 _ (own_find hp)
      obtain ⟨e, u1, u2, u3, rfl, hTe, g1, g2, g3⟩ := Td.i3 dv
      obtain rfl := g1.strI
      obtain rfl := g3.strI
      obtain ⟨ka, kvs', rfl, hka, hks⟩ := g2.inv
      have hg : DGet H hd (.str f) (some (.ref e)) := by
        rw [← hv]
        exact DGet.k (k := .inr f) eh
      refine ⟨_, rfl, x, LkC K, dx, _, .ref hd, rfl, ex, T.cl_Looking, T.na_heads, rfl, _, rfl, a, _, 1, .str f, rfl, rfl, hTt.sq, rfl, hd, .ref e, rfl, hg, e, _, rfl, hTe.sq, rfl, _, _, rfl, _, _, rfl, _, _, rfl, rfl, ?_⟩
      have hkl' : kvs'.length = args.length := by rw [hks.len, List.length_map, hpl]
      have hcl : cs.length = args.length := by rw [tc.len, List.length_map]
      have hic : inner (LL tw own) (.call f args, r, k) = (p.2.1.zip args).map fun q => (q.2, r, q.1) := inner_call hp
      refine ⟨_, rfl, a, _, 2, .ref c, rfl, rfl, hTt.sq, rfl, _, rfl, c, ka, cs, kvs', rfl, hc.sq, hka.sq, fun D2 nD2 => ?_⟩
      refine lc_it (K27Z.walk_zipG (sq1 := K27Z.sqT K c) (sq2 := K27Z.sqT K ka) hcl hkl') (fun i H' => Same H H' ∧ ∃ acc, H' D2 = some (.lst acc) ∧ Ents K H' acc ((inner (LL tw own) (.call f args, r, k)).take i)) ⟨same_new nD2, [], upd_same, .nil⟩ (fun i H' _ hP => ⟨(hc.mono (tk hP.1)).sq, (hka.mono (tk hP.1)).sq⟩) (fun i x Hb Hc hi hP hY => ?_) (fun Hb hP => ?_)
      · obtain ⟨sb, acc2, eb, tb⟩ := hP
        obtain ⟨Tp, x1, x2, rfl, nT, eH, f1, f2⟩ := hY
        subst eH
        generalize hE : upd Hb Tp _ = Hc
        obtain ⟨sT, eT⟩ := mk hE nT
        obtain ⟨d1, hd1, dx1⟩ := tc.getV f1
        obtain ⟨u, hu1, rfl⟩ := map_at hd1
        obtain ⟨d2, hd2, dx2⟩ := hks.getV f2
        obtain ⟨kk, hkk, rfl⟩ := map_at hd2
        obtain rfl := dx2.strI
        have hum := List.mem_of_getElem? hu1
        have hdep : u.dep + 1 ≤ (Tm.call f args).dep := by
          have h1 := depL_mem hum
          have h2 := dep_things ht
          simp only [things] at h2
          omega
        refine ⟨Tp, _, rfl, .inl (.inl eT), rfl, _, _, rfl, _, _, rfl, rfl, rfl, _, rfl, _, rfl, _, rfl, lz 3, fun pt hpt => ?_⟩
        generalize hE : upd Hc pt _ = Hd
        obtain ⟨sp, ep⟩ := mk hE hpt
        have sbd := sT.trans sp
        have eD := sbd _ _ eb
        have hal : acc2.length ≤ args.length := by
          have h1 := Paired.length tb
          rw [List.length_take] at h1
          omega
        have hin : (inner (LL tw own) (.call f args, r, k))[i]? = some (u, r, kk) := by
          rw [hic, List.getElem?_map, (List.getElem?_zip_eq_some (z := (kk, u))).mpr ⟨hkk, hu1⟩]
          rfl
        refine ⟨acc2, eD, lzl (by omega), smut (sb.trans sbd) nD2, _, upd_same, ?_⟩
        rw [take_succ' hin]
        have sH : Same H Hd := sb.trans sbd
        have hne : ∀ c, c ≠ D2 → (upd Hd D2 (HO.lst (acc2 ++ [V.ref pt]))) c = Hd c := fun c hc => upd_ne hc
        have nd2 : d ≠ D2 := ne_of_none ed nD2
        have nptD : pt ≠ D2 := fun z => by
          rw [z, sT _ _ eb] at hpt
          cases hpt
        refine Ents.app (Paired.mapP (tb.same sbd) fun v x h => ?_) (.cons ⟨pt, x1, d, kvs, rfl, by rw [hne _ nptD]; exact ep, ?_, by rw [hne _ nd2]; exact sH _ _ ed, hkE, ?_⟩ .nil)
        · obtain ⟨a', tv', d', kv', e', g1, g2, g3, g4, g5⟩ := h
          refine ⟨a', tv', d', kv', e', ?_, Td.mono (TupK.put (TupK.refl _) eD rfl) g2, ?_, g4, g5⟩
          · rw [hne _ (ne_of g1 eD (by intro z; cases z))]; exact g1
          · rw [hne _ (ne_of g3 eD (by intro z; cases z))]; exact g3
        · exact Td.mono (TupK.put (TupK.refl _) eD rfl) (dx1.mono (tk sH))
        · show kvs.length + 2 * u.dep ≤ 200
          omega
      · obtain ⟨sb, acc2, eb, tb⟩ := hP
        have hlen : (inner (LL tw own) (.call f args, r, k)).length ≤ args.length := by
          rw [hic, List.length_map, List.length_zip]
          omega
        rw [List.take_of_length_le hlen] at tb
        exact q D2 Hb acc2 sb nD2 eb tb
    | use t' h ths =>
      refine ifF rfl ?_
      clear hwd hwdn
      unfold Tm.data at dt
      rw [dataL_map] at dt
      obtain ⟨b, v1, v2, v3, v4, e1, hTt, h1, h2, h3, h4⟩ := Td.i4 dt
      cases e1
      obtain rfl := h1.strI
      obtain rfl := h2.strI
      obtain rfl := h3.strI
      obtain ⟨c, cs, rfl, hc, tc⟩ := h4.inv
      obtain ⟨fm, hT', hfm, hfl, hff, hbo, hwt, hfk⟩ := wrong_use_ok hw
      refine ⟨_, rfl, a, _, 0, _, rfl, rfl, hTt.sq, rfl, rfl, _, rfl, ?_⟩
      refine ifF (show decide (V.str ("use" : Str) = V.str "call") = false by rw [decV]; decide +kernel) ?_
      obtain ⟨fo, hfo, rfl⟩ := form_find hfm
      obtain ⟨hfo2, hfo3, hfo4, hfo5⟩ := okT.form fo (List.mem_of_find?_eq_some hfo)
      obtain ⟨fv, hfv, dfv⟩ := kf.at.1 _ hfo
      have dfo := dfv
      obtain ⟨fa, u1, u2, u3, u4, rfl, hFa, g1, g2, g3, g4⟩ := Td.i4 dfv
      clear g1 g2 g3 g4
      have hg : DGet H fd (.str h) (some (.ref fa)) := by
        rw [← hfv]
        exact DGet.k (k := .inr h) ef
      have hcl : cs.length = ths.length := by rw [tc.len, List.length_map]
      have hth7 : ths.length ≤ 7 := by
        rw [← hfl]
        exact Nat.le_trans (List.length_filter_le _ _) hfo5
      have hdl : fo.1.dues.length ≤ 7 := by omega
      refine ⟨_, rfl, x, LkC K, dx, _, .ref fd, rfl, ex, T.cl_Looking, T.na_forms, rfl, _, rfl, a, _, 2, .str h, rfl, rfl, hTt.sq, rfl, fd, .ref fa, rfl, hg, ?_⟩
      refine ⟨.ref fa, fo, rfl, dfo, hfo5, fun p1 H1 ds s1 n1 e1 td1 => ⟨_, rfl, a, _, 3, .ref c, rfl, rfl, (hTt.mono (tk s1)).sq, rfl, p1, c, ds, cs, rfl, .inl (.inl e1), (hc.mono (tk s1)).sq, ?_, fun H2 p2 ts s12 n2 nts hp2 e2 hpa => ?_⟩⟩
      · rw [td1.len, List.length_map, hcl, hfl]
      have s2 : Same H H2 := s1.trans s12
      have tb : Tds K H2 (ts.map V.ref) ((fo.1.dues.zip ths).map bothD) := both_laid (td1.mono (tk s12)) (tc.mono (tk s2)) hpa
      have hbl : (ts.map V.ref).length = (fo.1.dues.zip ths).length := by rw [tb.len, List.length_map]
      have hz7 : (fo.1.dues.zip ths).length ≤ 7 := by rw [List.length_zip]; omega
      generalize hvs : ts.map V.ref = vs at tb hbl e2
      clear hpa hvs td1 e1 n1 nts hp2
      have tcH2 := tc.mono (tk s2)
      have hTtH2 := hTt.mono (tk s2)
      have ed2 := s2 _ _ ed
      generalize hB : binds (fo.1.dues.zip ths) = B
      have hinn : inner (LL tw own) (.use t' h ths, r, k) = (fo.1.dues.zip ths).filterMap (entryOf r B) := by
        unfold inner
        simp only [hbo, hB]
      have hdep := dep_things ht
      simp only [things] at hdep
      -- the names
      refine ⟨_, rfl, p2, rfl, ⟨vs, .inl (.inl e2)⟩, fun NL nNL => lc_it (walk_list (K := K) (a := p2) (xs := vs)) (fun i H' => Same H2 H' ∧ ∃ nv, H' NL = some (.lst nv) ∧ Tds K H' nv ((binds ((fo.1.dues.zip ths).take i)).map pairD)) ⟨same_new nNL, [], upd_same, .nil⟩ (fun i H' _ hP => .inl (.inl (hP.1 _ _ e2))) (fun i y Hz Hb hi hP hY => ?_) (fun H3 hP => ?_)⟩
      · obtain ⟨sa, nv, ea, ta⟩ := hP
        obtain ⟨rfl, hx⟩ := hY
        obtain ⟨q0, a', w1, w2, hq0, rfl, hTa, d1, d2⟩ := both_at (tb.mono (tk sa)) hx
        have hf0 := List.all_eq_true.mp hff _ (List.mem_of_getElem? hq0)
        obtain ⟨a2, rest, rfl, hT2, hrest⟩ := Item.fields d1
        have keep : binds ((fo.1.dues.zip ths).take (i + 1)) = binds ((fo.1.dues.zip ths).take i) ++ binds [q0] := by
          rw [take_succ' hq0]
          unfold binds
          rw [List.filterMap_append]
        have hnl : nv.length ≤ 7 := by
          rw [ta.len, List.length_map]
          have h1 := List.length_filterMap_le bindOf ((fo.1.dues.zip ths).take i)
          rw [List.length_take] at h1
          unfold binds
          omega
        refine ⟨a', _, rfl, hTa.sq, rfl, _, _, rfl, _, _, rfl, rfl, rfl, _, rfl, a2, _, 0, .str q0.1.tag, rfl, rfl, hT2.sq, at_of (j := 0) rfl rfl, rfl, _, rfl, ?_⟩
        rw [decV, keep]
        obtain ⟨it, t⟩ := q0
        cases it with
        | name z =>
          cases t with
          | nm nx =>
            obtain rfl := (show w2 = .str nx from Td.strI d2)
            obtain ⟨vk, _, rfl, hvk, hr0⟩ := hrest.cons_inv
            obtain rfl := hvk.strI
            obtain rfl := hr0.nil_inv
            refine ifT (show decide (("name" : Str) = "name") = true by decide +kernel) ⟨_, rfl, _, rfl, a2, _, 1, .str z, rfl, rfl, hT2.sq, at_of (j := 1) rfl rfl, lz 2, fun pp hpp => ?_⟩
            generalize hE : upd _ pp _ = H6
            obtain ⟨s6, e6⟩ := mk hE hpp
            have eN6 := s6 _ _ ea
            have k6 : TupK H6 (upd H6 NL (.lst (nv ++ [.ref pp]))) := TupK.put (TupK.refl _) eN6 rfl
            refine ⟨nv, eN6, lzl (by omega), smut (sa.trans s6) nNL, _, upd_same, ?_⟩
            rw [List.map_append]
            exact ((ta.mono (tk s6)).mono k6).append (.cons (.at (k6 _ _ rfl e6) (.cons (.str _) (.cons (.str _) .nil))) .nil)
          | _ => cases hf0
        | sign z => cases t <;> cases hf0
        | lit =>
          refine ifF (show decide (("lit" : Str) = "name") = false by decide +kernel) ⟨sa, nv, ea, ?_⟩
          have : binds [(Item.lit, t)] = [] := by cases t <;> rfl
          rw [this, List.append_nil]
          exact ta
        | term z os =>
          refine ifF (show decide (("term" : Str) = "name") = false by decide +kernel) ⟨sa, nv, ea, ?_⟩
          have : binds [(Item.term z os, t)] = [] := by cases t <;> rfl
          rw [this, List.append_nil]
          exact ta
      obtain ⟨s23, nv, eN, tN⟩ := hP
      rw [show (fo.1.dues.zip ths).take vs.length = fo.1.dues.zip ths from List.take_of_length_le (by omega), hB] at tN
      refine ⟨lz 0, fun FL nFL => ?_⟩
      generalize hE : upd _ FL _ = H4
      obtain ⟨s4, eF4⟩ := mk hE nFL
      clear hE
      have s03 := s2.trans s23
      have nFLH : H FL = none := Same.free s03 nFL
      have nNF : NL ≠ FL := ne_of_none eN nFL
      have eN4 := s4 _ _ eN
      have tN4 := tN.mono (tk s4)
      have s04 := s03.trans s4
      have s24 := s23.trans s4
      have e24 := s24 _ _ e2
      have n2F : p2 ≠ FL := ne_of_none (s23 _ _ e2) nFL
      have tb4 := tb.mono (tk s24)
      clear eN tN tb e2 s23 s4 nFL
      refine ⟨_, rfl, p2, rfl, ⟨vs, .inl (.inl e24)⟩, ?_⟩
      refine for_it (walk_list (K := K) (a := p2) (xs := vs)) (fun i σ H' => ∃ y9 y10 y11, σ = [some (.ref x), some (.ref a), some (.ref d), none, none, none, some (.ref p2), some (.ref NL), some (.ref FL), y9, y10, y11, none, none, none] ∧ Same H H' ∧ H' p2 = some (.lst vs) ∧ TupK H4 H' ∧ H' NL = some (.lst nv) ∧ ∃ fv, H' FL = some (.lst fv) ∧ Ents K H' fv (((fo.1.dues.zip ths).take i).filterMap (entryOf r B)))
        ⟨none, none, none, rfl, s04, e24, TupK.refl _, eN4, [], eF4, .nil⟩ (fun i σ H' _ hP => ?_) (fun i y σ Hz H5 hi hP hY => ?_) (fun σ Hb hP => ?_)
      · obtain ⟨_, _, _, _, _, eb, _⟩ := hP
        exact .inl (.inl eb)
      · obtain ⟨y9, y10, y11, rfl, sm5, eD5, k45, eN5, fv, eF5, tF5⟩ := hP
        obtain ⟨rfl, hx⟩ := hY
        have tN5 := tN4.mono k45
        obtain ⟨q0, a', w1, w2, hq0, rfl, hTa, d1, d2⟩ := both_at (tb4.mono k45) hx
        obtain ⟨it, u⟩ := q0
        simp only at d1 d2
        have hf0 := List.all_eq_true.mp hff _ (List.mem_of_getElem? hq0)
        obtain ⟨hit, hu2⟩ := List.getElem?_zip_eq_some.mp hq0
        simp only at hit hu2
        have hio := dues_ok hfo3 i it hit
        have hbn : (binds ((fo.1.dues.zip ths).take i)).length = nNames (fo.1.dues.take i) := by
          rw [take_zip']
          refine binds_names (by rw [List.length_take, List.length_take, hfl]) ?_
          rw [← take_zip']
          exact List.all_eq_true.mpr fun q hq => List.all_eq_true.mp hff q (List.mem_of_mem_take hq)
        have hBl : nNames (fo.1.dues.take i) ≤ B.length := by
          rw [← hbn, ← hB]
          have h1 : binds (fo.1.dues.zip ths) = binds ((fo.1.dues.zip ths).take i) ++ binds ((fo.1.dues.zip ths).drop i) := by
            unfold binds
            rw [← List.filterMap_append, List.take_append_drop]
          rw [h1, List.length_append]
          omega
        have hum := List.mem_of_getElem? hu2
        obtain ⟨a2, rest, rfl, hT2, hrest⟩ := Item.fields d1
        have hfvl : fv.length ≤ 7 := by
          have h1 := Paired.length tF5
          have h2 := List.length_filterMap_le (entryOf r B) ((fo.1.dues.zip ths).take i)
          rw [List.length_take] at h2
          omega
        refine ⟨a', _, rfl, hTa.sq, rfl, _, _, rfl, _, _, rfl, rfl, ?_⟩
        refine ⟨_, rfl, a2, _, 0, .str it.tag, rfl, rfl, hT2.sq, at_of (j := 0) rfl rfl, rfl, _, rfl, ?_⟩
        rw [decV]
        cases it with
        | sign z => cases u <;> cases hf0
        | lit =>
          refine ifF (show decide (("lit" : Str) = "term") = false by decide +kernel) ⟨_, _, _, rfl, sm5, eD5, k45, eN5, fv, eF5, ?_⟩
          rw [take_succ' hq0, List.filterMap_append]
          have : [(Item.lit, u)].filterMap (entryOf r B) = [] := by cases u <;> rfl
          rw [this, List.append_nil]
          exact tF5
        | name kn =>
          refine ifF (show decide (("name" : Str) = "term") = false by decide +kernel) ⟨_, _, _, rfl, sm5, eD5, k45, eN5, fv, eF5, ?_⟩
          rw [take_succ' hq0, List.filterMap_append]
          have : [(Item.name kn, u)].filterMap (entryOf r B) = [] := by cases u <;> rfl
          rw [this, List.append_nil]
          exact tF5
        | term kt os =>
          obtain ⟨vk, _, rfl, hvk, hr0⟩ := hrest.cons_inv
          obtain rfl := hvk.strI
          obtain ⟨vo, _, rfl, hvo, hr1⟩ := hr0.cons_inv
          obtain rfl := hr1.nil_inv
          obtain ⟨oa, ov, rfl, hoa, hos⟩ := hvo.inv
          obtain ⟨hko, hjo, hlo⟩ := hio
          refine ifT (show decide (("term" : Str) = "term") = true by decide +kernel) ?_
          have hovl : ov.length = os.length := by rw [hos.len, List.length_map]
          have ed5 := sm5 _ _ ed
          refine ⟨_, rfl, d, kvs, rfl, .inl ed5, fun dn hdn => ?_⟩
          generalize hE : upd _ dn _ = H6
          obtain ⟨s6, e6⟩ := mk hE hdn
          clear hE
          have nFd : FL ≠ dn := ne_of_none eF5 hdn
          have eN6 := s6 _ _ eN5
          have tN6 := tN5.mono (tk s6)
          have hoa6 := hoa.mono (tk s6)
          refine ⟨_, rfl, .inr (.inr (.inl ⟨rfl, .inl ⟨_, e6⟩⟩)), _, rfl, a2, _, 2, .ref oa, rfl, rfl, (hT2.mono (tk s6)).sq, at_of (j := 2) rfl rfl, oa, rfl, ⟨_, hoa6.sq⟩, fun D3 nD3 => dc_it (walk_tup (K := K) (a := oa) (xs := ov)) (fun l H' => Same H6 H' ∧ ∃ dd, H' D3 = some (.dK dd) ∧ KvE dd (opened (fun _ => none) B (os.take l)) ∧ dd.length ≤ l) ⟨same_new nD3, [], upd_same, KvE.nil, Nat.le_refl _⟩ (fun l H' _ hP => (hoa6.mono (tk hP.1)).sq) (fun l y Hx H7 hl hP hY => ?_) (fun H7 hP => ?_)⟩
          · obtain ⟨s67, dd, e3, hk3, hl3⟩ := hP
            obtain ⟨rfl, hx⟩ := hY
            obtain ⟨dj, hdj, dx⟩ := hos.getV hx
            obtain ⟨j, hj, rfl⟩ := map_at hdj
            obtain rfl := dx.intI
            have hjn : j < B.length := Nat.lt_of_lt_of_le (hjo j (List.mem_of_getElem? hj)) hBl
            obtain ⟨p, hp⟩ : ∃ p, B[j]? = some p := ⟨_, List.getElem?_eq_getElem hjn⟩
            obtain ⟨v, hv, dv⟩ := (tN6.mono (tk s67)).get (i := j) (d := pairD p) (by rw [List.getElem?_map, hp]; rfl)
            obtain ⟨e, u1, u2, rfl, hTe, k1, k2⟩ := Td.i2 dv
            obtain rfl := k1.strI
            obtain rfl := k2.strI
            have eN7 := s67 _ _ eN6
            refine ⟨rfl, _, rfl, _, rfl, NL, nv, j, .ref e, rfl, rfl, .inl (.inl eN7), atI_nat hv, e, _, 0, .str p.1, rfl, rfl, hTe.sq, at_of (j := 0) rfl rfl, _, rfl, _, rfl, NL, nv, j, .ref e, rfl, rfl, .inl (.inl eN7), atI_nat hv, e, _, 1, .str p.2, rfl, rfl, hTe.sq, at_of (j := 1) rfl rfl, dd, .inr p.1, rfl, e3, lzl (by omega), smut s67 nD3, _, upd_same, ?_, opened_len hl3⟩
            rw [take_succ' hj]
            unfold opened at hk3 ⊢
            rw [List.foldl_append]
            show KvE _ (match B[j]? with
              | some p => Sg.up _ p.1 p.2
              | none => _)
            rw [hp]
            exact hk3.put p.1 p.2
          obtain ⟨s67, dd, e3, hk3, hl3⟩ := hP
          rw [show os.take ov.length = os from List.take_of_length_le (by omega)] at hk3
          have e67 := s67 _ _ e6
          have n3 : dn ≠ D3 := ne_of_none e6 nD3
          have hml := length_mergeK dd kvs
          refine ⟨dn, D3, kvs, dd, rfl, rfl, n3, e67, e3, by omega, ?_⟩
          have hkm := hkE.over hk3
          generalize mergeK kvs dd = km at hkm hml
          generalize hE : upd H7 dn _ = H8
          have e8 : H8 dn = some (.dK km) := by rw [← hE]; exact upd_same
          have s58 : Same H5 H8 := by rw [← hE]; exact smut (s6.trans s67) hdn
          clear hE hk3 e3 e67 s67 n3
          have eF8 := s58 _ _ eF5
          have hT8 := hT2.mono (tk s58)
          refine ⟨_, rfl, .inl ⟨rfl, _, .inl (.inl eF8)⟩, _, rfl, _, rfl, _, rfl, a2, _, 1, .str kt, rfl, rfl, hT8.sq, at_of (j := 1) rfl rfl, lz 3, fun pp hpp => ?_⟩
          generalize hE : upd _ pp _ = H9
          obtain ⟨s9, e9⟩ := mk hE hpp
          clear hE
          have eF9 := s9 _ _ eF8
          refine ⟨FL, fv, _, rfl, rfl, eF9, lzl (by omega), ?_⟩
          generalize hE : upd H9 FL _ = H10
          have eF10 : H10 FL = some (.lst (fv ++ [.ref pp])) := by rw [← hE]; exact upd_same
          have k910 : TupK H9 H10 := by rw [← hE]; exact TupK.put (TupK.refl _) eF9 rfl
          have o10 : ∀ c, c ≠ FL → H10 c = H9 c := fun c hc => by rw [← hE, upd_ne hc]
          have s59 := s58.trans s9
          have s09 : Same H H9 := sm5.trans s59
          have sm10 : Same H H10 := by rw [← hE]; exact smut s09 nFLH
          have k510 : TupK H5 H10 := (tk s59).trans k910
          clear hE
          refine ⟨_, _, _, rfl, sm10, by rw [o10 _ n2F]; exact s59 _ _ eD5, k45.trans k510, by rw [o10 _ nNF]; exact s59 _ _ eN5, fv ++ [.ref pp], eF10, ?_⟩
          rw [take_succ' hq0, List.filterMap_append]
          have : [(Item.term kt os, u)].filterMap (entryOf r B) = [(u, opened r B os, kt)] := by cases u <;> rfl
          rw [this]
          refine Ents.app (Paired.mapP (tF5.same s59) fun v y hh => ?_) (.cons ?_ .nil)
          · obtain ⟨a', tv', d', kv', e', g1, g2, g3, g4, g5⟩ := hh
            exact ⟨a', tv', d', kv', e', by rw [o10 _ (ne_of g1 eF9 (by intro z; cases z))]; exact g1, g2.mono k910, by rw [o10 _ (ne_of g3 eF9 (by intro z; cases z))]; exact g3, g4, g5⟩
          · refine ⟨pp, w2, dn, km, rfl, k910 _ _ rfl e9, d2.mono k510, by rw [o10 _ nFd.symm]; exact s9 _ _ e8, hkm, ?_⟩
            have := depL_mem hum
            show km.length + 2 * u.dep ≤ 200
            omega
      · obtain ⟨y9, y10, y11, rfl, sm, eb, k4b, eN, fv, eF, tF⟩ := hP
        rw [List.take_of_length_le (by omega), ← hinn] at tF
        exact ⟨_, rfl, q FL Hb fv sm nFLH eF tF⟩
end K27

set_option maxHeartbeats 4000000
/-! NoTerm: what the top says of it; its __init__. -/
namespace K27
open PySem PySem.Spec PyProof.Rows L2
abbrev NtC (K : PySem.W.Frag) : Addr := He.ga K "NoTerm"
theorem oexB_cls {K : PySem.W.Frag} {C : Addr} (h : oexB K C = true) : ∃ nm q N bs bm sn sub ab col dd k0 k1 k2 k3 k5, K.lookup C = some (excClassObj nm q C N bs bm true sn sub ab col dd k0 k1 k2 k3 k5 "ValueError.__new__") ∧ PySem.HandSPX.refsVE bm = true := by
  unfold oexB at h
  split at h
  · rename_i t dd cd sl e
    split at h
    · rename_i c bm s0 s1 s2 s3 n s5 e1 e2
      simp only [Bool.and_eq_true, decide_eq_true_eq] at h
      obtain ⟨rfl, rfl, rfl, h4, h5, h6⟩ := h
      have esl : sl = #[s0, s1, s2, s3, some (.builtin "ValueError.__new__"), s5] := by
        rw [← e2]
      obtain ⟨nm, bs, mro, ns, q, hd, sn, sub, ab, col, hdel⟩ := cd
      simp only at e1 h4 h5
      subst e1 h5 esl
      have h4' : hdel = false := by simpa using h4
      subst h4'
      exact ⟨_, _, _, _, _, _, _, _, _, _, _, _, _, _, _, e, h6⟩
    · cases h
  · cases h
structure NtT (K : PySem.W.Frag) : Prop where
  oex : OexC K (NtC K)
  xf : XfC K (NtC K)
  nw : PySem.W.findIn K (.ref (NtC K)) "word" = some none
  na : PySem.W.findIn K (.ref (NtC K)) "at" = some none
  me : Meth K (NtC K) "__init__" (He.ma K (NtC K) "__init__")
  ex : PySem.W.exmOne K (.ref (NtC K)) (.ref (NtC K)) = some true
theorem TX.nt {K : PySem.W.Frag} {mg : Str → Option Value} (T : TX K mg) : NtT K := by
  have h := (Bool.and_eq_true_iff.mp (Bool.and_eq_true_iff.mp T.says.2).2).1
  unfold noTermB at h
  simp only [Bool.and_eq_true, decide_eq_true_eq] at h
  obtain ⟨h1, h2, h3, h4, h5, h6, h7, h8, h9⟩ := h
  have hx := xfB_ok h2
  exact ⟨⟨oexB_cls h1, h8, hx.exC, h9, He.keep_ok h5⟩, hx, He.noat_ok h3, He.noat_ok h4, He.meth_ok h6, He.exm_ok h7⟩
theorem TX.bc {K : PySem.W.Frag} {mg : Str → Option Value} (T : TX K mg) : BaseC K (He.ga K "TowerError") :=
  baseB_ok (Bool.and_eq_true_iff.mp (Bool.and_eq_true_iff.mp T.says.2).2).2
variable {P : Program} {w : World} {K : PySem.W.Frag} {mg : Str → Option Value} {base : Heap}
def spNtInit (K : PySem.W.Frag) : Sp := fun vs H Q _ => ∃ (a : Addr) (x : Str) (p : Int), vs = [.ref a, .str x, .int p] ∧ H a = some (exo a (NtC K) none) ∧
  ∀ d, H d = none → d ≠ a → Q .non (upd (upd (upd H d (exd d [("word", .str x)])) a (exo a (NtC K) (some d))) d (exd d [("at", .int p), ("word", .str x)]))
abbrev N_NoTerm_init : List Str := ["self", "word", "at"]
theorem sc_NoTerm_init : FnScope N_NoTerm_init ["self", "word", "at"] (defScope s_NoTerm_init) := ⟨rfl, rfl, rfl, by decide +kernel, rfl, by decide +kernel, by decide +kernel⟩
theorem ok_NoTerm_init (T : TX K mg) : ∃ fd, FnOk P w K mg base CX0 1 (He.ma K (NtC K) "__init__") fd ["self", "word", "at"] (spNtInit K) ∧ Binds K fd ["self", "word", "at"] [] := by
  obtain ⟨fd, F⟩ := T.f_NoTerm_init
  refine ⟨fd, F.ok sc_NoTerm_init (fun vs H Q E h => ?_) (fun cdv A outer s H vs Q E hr h => ?_), F.bindsN (fun _ _ _ _ _ _ us hl => match us, hl with | [_, _, _], _ => rfl)⟩
  · obtain ⟨a, x, p, rfl, _⟩ := h
    rfl
  · obtain ⟨a, x, p, rfl, ea, q⟩ := h
    refine ⟨_, (pss_cons (ps_expr (pe_baseinit (by rfl) T.m_TowerError T.bc (pa_cons (pv 0) (pa_cons pe_str pa_nil))))
      (pss_cons (ps_ost (pv 0) (pv 1) rfl)
      (pss_one (ps_ost (pv 0) (pv 2) rfl)))), ?_⟩
    have N := T.nt
    refine ⟨_, rfl, a, NtC K, _, rfl, by decide, N.oex, ea, ?_⟩
    refine ⟨_, rfl, _, rfl, a, NtC K, rfl, N.oex, N.nw, .inl ⟨ea, fun d hd hne => ?_⟩⟩
    have h1 : (upd (upd H d (exd d [("word", .str x)])) a (exo a (NtC K) (some d))) a = some (exo a (NtC K) (some d)) := upd_same
    have h2 : (upd (upd H d (exd d [("word", .str x)])) a (exo a (NtC K) (some d))) d = some (exd d [("word", .str x)]) := by
      rw [upd_ne hne]
      exact upd_same
    exact ⟨_, rfl, _, rfl, a, NtC K, rfl, N.oex, N.na, .inr ⟨d, _, h1, h2, by show 1 ≤ 900; decide, q d hd hne⟩⟩
end K27

set_option maxHeartbeats 8000000
namespace K27
open PySem PySem.Spec PyProof.Rows L2
variable {P : Program} {w : World} {K : PySem.W.Frag} {mg : Str → Option Value} {base : Heap}
/-- a def that may let an exception out -/
theorem Ok.mkX {k : Nat} {x : Str} {st : Stmt} {N ps : List Str} {sp : Sp} (T : TX K mg) (g : mg x = some (.ref (He.ga K x))) (F : ∃ fd, FnP K x st (He.ga K x) fd) (S : FnScope N ps (defScope st)) (len : ∀ vs H Q E, sp vs H Q E → vs.length = ps.length)
    (hb : ∀ (kV doc pm : Value) (an : Option Addr) (cdv ct : Value) (us : List Value), us.length = ps.length → bindArgs (PySem.W.fnOf x x (defArgs st) (defBody st) (defScope st) .none kV doc pm an cdv ct) ⟨us, []⟩ = pure (ps.zip us))
    (hbody : ∀ (cdv : Value) (A : Around) (outer : List Env) (s : Shared) (H : Hp) (vs : List V) (Q : VK) (E : XK), Room k (A.deeper (envOfC x (defScope st) s.heap.objs.size (He.ga K x) cdv)) → sp vs H Q E →
      ∃ t, PSs (cxOf (L2.CX P w) P w K mg base N x (defScope st) (He.ga K x) cdv A outer s H E) (defBody st) t ∧ t { nx := fun _ H' => Q .non H', rt := Q } (start N vs) H) : Ok P w K mg base (L2.CX P w) (k + 1) x ps sp := by
  obtain ⟨fd, F⟩ := F
  exact ⟨g, F.kp, fd, F.ok S len hbody, F.bindsN hb⟩
theorem Lk.mut {H H' : Hp} {x b : Addr} {zs : List V} {tw : List It} {own : Str} (h : Lk K H x tw own) (e : H b = some (.lst zs)) (k : TupK H H') (ho : ∀ c, c ≠ b → H' c = H c) : Lk K H' x tw own := by
  obtain ⟨dx, fd, hd, fkv, hkv, h1, h2, h3, h4, h5⟩ := h
  exact ⟨dx, fd, hd, fkv, hkv, by rw [ho _ (ne_of h1 e (by intro z; cases z))]; exact h1, by rw [ho _ (ne_of h2 e (by intro z; cases z))]; exact h2, h3.mono k, by rw [ho _ (ne_of h4 e (by intro z; cases z))]; exact h4, h5.mono k⟩
def spLookTerm (K : PySem.W.Frag) : Sp := fun vs H Q E => ∃ (v pv tv : V) (tw : List It) (own : Str) (ps : List (Str × Str)) (t : Tm) (k : Str), vs = [v, .str own, pv, .str k, tv] ∧ Td K H v (.tuple (tw.map It.data)) ∧ TwOk tw ∧ OwnOk tw own ∧ Td K H pv (.list (ps.map pairD)) ∧ Td K H tv t.data ∧
  (∀ y ∈ pre (LL tw own) (t, envL ps, k), Fine (LL tw own) y) ∧ (pre (LL tw own) (t, envL ps, k)).length ≤ 1000 ∧ ps.length + 2 * t.dep ≤ 200 ∧
  (look (LL tw own) (t, envL ps, k) = none → ∀ H', Same H H' → Q (.bl true) H') ∧
  (∀ z p, look (LL tw own) (t, envL ps, k) = some (z, p) → ∀ d H', Same H H' → H' d = some (.xd [("at", .int p), ("word", .str z)]) → E (.ref (NtC K)) (some d) H')
abbrev N_look_term : List Str := ["tower", "tongue", "known", "kind", "term", "looking", "at", "left", "part", "here", "due", "word"]
theorem sc_look_term : FnScope N_look_term ["tower", "tongue", "known", "kind", "term"] (defScope s_look_term) := ⟨rfl, rfl, rfl, by decide +kernel, rfl, by decide +kernel, by decide +kernel⟩
theorem findBad_cons {L : Lang} {e : Entry} {r : List Entry} {i : Nat} : findBad L (e :: r) i = match wrong L e with
    | some w => some (w, i)
    | none => findBad L r (i + 1) := rfl
theorem ok_look_term (T : TX K mg) : Ok P w K mg base (L2.CX P w) 5 "look_term" ["tower", "tongue", "known", "kind", "term"] (spLookTerm K) := by
  refine Ok.mkX T T.m_look_term T.f_look_term sc_look_term (fun vs H Q E h => ?_) (fun _ _ _ _ _ _ us hl => match us, hl with | [_, _, _, _, _], _ => rfl) (fun cdv A outer s H vs Q E hr h => ?_)
  · obtain ⟨v, pv, tv, tw, own, ps, t, k, rfl, _⟩ := h
    rfl
  · obtain ⟨v, pv', tv, tw, own, ps, t, k, rfl, dv, htw, hown, dp, dt, hfine, hlen, hdep, q1, q2⟩ := h
    have hu := hu_of hr
    obtain ⟨fd0, F0, b0⟩ := (ok_Looking_init (P := P) (w := w) (base := base) T).ex
    obtain ⟨fd1, F1, b1⟩ := (ok_Looking_wrong (P := P) (w := w) (base := base) T).ex
    obtain ⟨fd2, F2, b2⟩ := (ok_Looking_right_in (P := P) (w := w) (base := base) T).ex
    obtain ⟨fd3, F3, b3⟩ := ok_NoTerm_init (P := P) (w := w) (base := base) T
    have N := T.nt
    refine ⟨_, (pss_cons (ps_set (i := 5) sc_look_term.nd rfl (Or.inl rfl) (pe_make T.mk_Looking F0 hr (by rfl) T.m_Looking b0 .nil pass0 (pa_cons (pv 0) (pa_cons (pv 1) pa_nil))))
      (pss_cons (ps_par (i := 6) (j := 7) (by rfl) sc_look_term.nd rfl rfl (by decide) rfl rfl (pa_cons pe_int (pa_cons (pe_lst (pa_cons (pe_tup (pa_cons (pv 4) (pa_cons (pe_callTy (call_dictPT rfl) (by rfl) T.n_dict (by decide +kernel) (pa_cons (pv 2) pa_nil)) (pa_cons (pv 3) pa_nil)))) pa_nil)) pa_nil)) (by rfl))
      (pss_cons (ps_while (passes_of rfl) (pt_cmpR op_gt (pe_callB call_len_seq (by rfl) T.n_len PySem.boot_len (pa_cons (pv 7) pa_nil)) pe_int (nomark _))
        (pss_cons (ps_asg (pe_bm0 PySem.F.plainAttrs_list PySem.F.slot_list_pop PySem.F.type_list_pop mt_pop (pv 7)) (pg_tup rfl (pgs_cons (pg_name (i := 8) sc_look_term.nd rfl (.inl rfl)) (pgs_cons (pg_name (i := 9) sc_look_term.nd rfl (.inl rfl)) (pgs_cons (pg_name (i := 10) sc_look_term.nd rfl (.inl rfl)) pgs_nil)))))
        (pss_cons (ps_set (i := 11) sc_look_term.nd rfl (Or.inl rfl) (pe_meth (pv 5) T.cl_Looking T.me_wrong F1 (hr.mono (by decide)) b1 .nil pass0 (pa_cons (pv 8) (pa_cons (pv 9) (pa_cons (pv 10) pa_nil)))))
        (pss_cons (ps_if (pt_cmpR op_notN (pv 11) pe_non (nomark _))
          (pss_one (ps_raise rfl (takes_of rfl rfl rfl rfl) (pmk_oex N.oex N.me.at_ (beq_iff_eq.mp N.me.fn) F3 (hr.mono (by decide)) b3 .nil pass0 (by rfl) T.m_NoTerm (pa_cons (pv 11) (pa_cons (pv 6) pa_nil)))))
          pss_nil)
        (pss_cons (ps_expr (pe_bm PySem.F.plainAttrs_list PySem.F.slot_list_extend PySem.F.type_list_extend mt_extend (pv 7) (pa_cons (pe_revL (pe_meth (pv 5) T.cl_Looking T.me_right_in F2 (hr.mono (by decide)) b2 .nil pass0 (pa_cons (pv 8) (pa_cons (pv 9) pa_nil)))) pa_nil)))
        (pss_one (ps_aug (i := 6) sc_look_term.nd rfl (.inl rfl) pe_int ip_add)))))))
      (pss_one (ps_ret pe_bl))))), ?_⟩
    refine ⟨_, rfl, _, rfl, fun x dx nx ndx hdx => ⟨x, dx, v, tw, own, rfl, upd_same, ?_, htw, hown, fun H1 hB hL => ⟨rfl, ?_⟩⟩⟩
    · exact Td.mono (tk (smut (same_new ndx) nx)) dv
    have s1 : Same H H1 := fun a o e => by
      refine hB _ _ (ne_of_none e nx) ?_
      rw [upd_ne (ne_of_none e nx), upd_ne (ne_of_none e ndx)]
      exact e
    clear hB
    obtain ⟨pa, po, pvs, rfl, hpa, hpo, hps⟩ := dp.invL
    have hpl : pvs.length = ps.length := by rw [hps.len, List.length_map]
    obtain ⟨as, rfl, hpair⟩ := pairs_at hps
    refine ⟨_, rfl, _, rfl, pa, po, as, ps.map kvOf, rfl, s1 _ _ hpa, hpo, Paired.mapP hpair fun _ _ hh => sqT_same hh s1, fun D nD => ?_⟩
    have hkl : (mergeK [] (ps.map kvOf)).length ≤ ps.length := by
      have := length_mergeK (ps.map kvOf) []
      rw [List.length_map, List.length_nil] at this
      omega
    have hkE := KvE.dict ps
    generalize mergeK [] (ps.map kvOf) = kv at hkl hkE
    generalize hE : upd _ D _ = H3
    obtain ⟨s3, e3⟩ := mk hE nD
    refine ⟨_, rfl, lz 3, fun pt hpt => ?_⟩
    generalize hE : upd _ pt _ = H4
    obtain ⟨s4, e4⟩ := mk hE hpt
    refine ⟨lz 1, fun Lf nLf => ⟨_, _, rfl, ?_⟩⟩
    generalize hE : upd _ Lf _ = H5
    obtain ⟨s5, e5⟩ := mk hE nLf
    clear hE
    have s05 : Same H H5 := s1.trans (s3.trans (s4.trans s5))
    have nLfH : H Lf = none := Same.free (s1.trans (s3.trans s4)) nLf
    have hL5 := hL.same (s3.trans (s4.trans s5))
    generalize hroot : ((t, envL ps, k) : Entry) = root at hfine hlen q1 q2
    have ent0 : Ent K H5 (.ref pt) root := by
      rw [← hroot]
      exact ⟨pt, tv, D, kv, rfl, s5 _ _ e4, dt.mono (tk s05), (s4.trans s5) _ _ e3, hkE, by show kv.length + 2 * t.dep ≤ 200; omega⟩
    refine ⟨fun m σ H' => ∃ done ts lv y8 y9 y10 y11, m = (ts.flatMap (pre (LL tw own))).length ∧ σ = [some v, some (.str own), some (.ref pa), some (.str k), some tv, some (.ref x), some (.int ((done : List Entry).length : Int)), some (.ref Lf), y8, y9, y10, y11] ∧ Same H H' ∧ H' Lf = some (.lst lv) ∧ Ents K H' lv ts.reverse ∧ Lk K H' x tw own ∧ pre (LL tw own) root = done ++ ts.flatMap (pre (LL tw own)) ∧ ∀ y ∈ done, wrong (LL tw own) y = none,
      ⟨_, [], [root], [.ref pt], none, none, none, none, rfl, rfl, s05, e5, .cons ent0 .nil, hL5, by simp, fun y hy => by cases hy⟩, ?_⟩
    rintro m σ Ha ⟨done, ts, lv, y8, y9, y10, y11, rfl, rfl, sa, eL, tL, hLa, hpp, hgd⟩
    have hlv : lv.length = ts.length := by rw [Paired.length tL, List.length_reverse]
    have hlook : look (LL tw own) root = findBad (LL tw own) (ts.flatMap (pre (LL tw own))) done.length := by
      unfold look
      rw [hpp, findBad_skip _ _ _ hgd, Nat.zero_add]
    refine ⟨_, rfl, Lf, lv, rfl, .inl (.inl (.inl eL)), _, _, rfl, rfl, _, rfl, ?_⟩
    cases ts with
    | nil =>
      rw [hlv]
      refine ifF rfl ?_
      exact q1 hlook Ha sa
    | cons e rest =>
      have hem : e ∈ pre (LL tw own) root := by
        rw [hpp]
        refine List.mem_append_right _ ?_
        rw [List.flatMap_cons]
        refine List.mem_append_left _ ?_
        rw [pre_eq]
        exact List.mem_cons_self
      have hfe := hfine e hem
      rw [List.reverse_cons] at tL
      obtain ⟨lv', v0, rfl, tL', hE0⟩ := tL.last
      rw [List.flatMap_cons, pre_eq (LL tw own) e, List.cons_append, findBad_cons] at hlook
      have hrl := flat_len (LL tw own) rest
      have hil := flat_len (LL tw own) (inner (LL tw own) e)
      have htot : 1 + ((inner (LL tw own) e).flatMap (pre (LL tw own))).length + (rest.flatMap (pre (LL tw own))).length ≤ 1000 := by
        have h3 := hlen
        rw [hpp, List.length_append, List.flatMap_cons, List.length_append, pre_eq (LL tw own) e, List.length_cons] at h3
        omega
      have hfl : lv'.length ≤ 1000 := by
        have h2 := Paired.length tL'
        rw [List.length_reverse] at h2
        omega
      rw [hlv]
      refine ifT (decide_eq_true (by show (0 : Int) < ((rest.length + 1 : Nat) : Int); omega)) ⟨_, fun σ' H' h => h, ?_⟩
      refine ⟨_, rfl, .inl ⟨rfl, _, .inl (.inl eL)⟩, Lf, _, v0, rfl, rfl, eL, by simp, ?_⟩
      rw [List.dropLast_concat]
      generalize hE : upd Ha Lf _ = Hb
      have eLb : Hb Lf = some (.lst lv') := by rw [← hE]; exact upd_same
      have ob : ∀ c, c ≠ Lf → Hb c = Ha c := fun c h => by rw [← hE, upd_ne h]
      have kab : TupK Ha Hb := by rw [← hE]; exact TupK.put (TupK.refl _) eL rfl
      have sb : Same H Hb := by rw [← hE]; exact smut sa nLfH
      clear hE
      have tLb := tL'.mut eL kab ob
      have hLb := hLa.mut eL kab ob
      have hEb : Ent K Hb v0 e := by
        have h0 : Ents K Ha [v0] [e] := .cons hE0 .nil
        have := h0.mut eL kab ob
        cases this with
        | cons h _ => exact h
      obtain ⟨a', tv', d', kv', rfl, g1, g2, g3, g4, g5⟩ := hEb
      refine ⟨a', _, rfl, .inl (.inl g1), rfl, _, _, rfl, _, _, rfl, _, _, rfl, rfl, ?_⟩
      have hLb' := hLb
      obtain ⟨dxx, fd, hd, fkv, hkv, exb, _⟩ := hLb'
      refine ⟨_, rfl, x, dxx, _, rfl, exb, rfl, _, rfl, _, rfl, _, rfl, x, tv', d', kv', tw, own, e.1, e.2.1, e.2.2, rfl, hLb, htw, hown, g2, g3, g4, hfe, fun Hc sc => ?_⟩
      refine ⟨_, rfl, rfl, _, rfl, ?_⟩
      have sHc := sb.trans sc
      cases hwe : wrong (LL tw own) e with
      | some z =>
        rw [hwe] at hlook
        refine ifT rfl ⟨_, rfl, _, rfl, (show 2 ≤ 1000 by decide), fun a ha => ⟨a, z, done.length, rfl, upd_same, fun d hd hne => ⟨rfl, d, _, ?_, upd_same, ?_, ?_⟩⟩⟩
        · rw [upd_ne hne.symm]
          exact upd_same
        · rw [upd_ne hne] at hd
          exact hd
        · refine q2 z done.length hlook d _ (fun b o eb => ?_) upd_same
          have hb : Hc b = some o := sHc _ _ eb
          have na : b ≠ a := ne_of_none hb ha
          have nd : b ≠ d := by
            rw [upd_ne hne] at hd
            exact ne_of_none hb hd
          rw [upd_ne nd, del_ne na, upd_ne nd, upd_ne na, upd_ne nd, upd_ne na]
          exact hb
      | none =>
        have eLc := sc _ _ eLb
        have hLc := hLb.same sc
        refine ifF rfl ⟨_, rfl, .inl ⟨rfl, _, .inl (.inl eLc)⟩, _, rfl, x, dxx, _, rfl, sc _ _ exb, rfl, _, rfl, _, rfl, x, tv', d', kv', tw, own, e.1, e.2.1, e.2.2, rfl, hLc, htw, hown, g2.mono (tk sc), sc _ _ g3, g4, g5, hfe.1, hwe, fun p He ws se np ep tp => ⟨p, ws, rfl, .inl (.inl ep), fun r2 hr2 => ?_⟩⟩
        generalize hE : upd _ r2 _ = Hf
        obtain ⟨sf, ef⟩ := mk hE hr2
        clear hE
        have sdf := se.trans sf
        have scf := sc.trans sdf
        have eLf := sdf _ _ eLc
        have hws : ws.length ≤ 1000 := by
          have h1 := Paired.length tp
          have h4 : inner (LL tw own) (e.1, e.2.1, e.2.2) = inner (LL tw own) e := rfl
          rw [h4] at h1
          omega
        refine ⟨Lf, r2, lv', ws.reverse, rfl, rfl, eLf, ef, lz _ (by rw [List.length_reverse]; omega), ?_⟩
        generalize hE : upd Hf Lf _ = Hg
        have eLg : Hg Lf = some (.lst (lv' ++ ws.reverse)) := by rw [← hE]; exact upd_same
        have og : ∀ c, c ≠ Lf → Hg c = Hf c := fun c h => by rw [← hE, upd_ne h]
        have kfg : TupK Hf Hg := by rw [← hE]; exact TupK.put (TupK.refl _) eLf rfl
        have sg : Same H Hg := by
          rw [← hE]
          exact smut (sHc.trans sdf) nLfH
        clear hE
        refine ⟨_, rfl, _, _, rfl, rfl, ?_⟩
        refine ⟨_, ?_, done ++ [e], inner (LL tw own) e ++ rest, lv' ++ ws.reverse, some tv', some (.ref d'), some (.str e.2.2), some (wordV none), rfl, ?_, sg, eLg, ?_, (hLc.same sdf).mut eLf kfg og, ?_, ?_⟩
        · rw [List.flatMap_append, List.flatMap_cons, pre_eq (LL tw own) e]
          simp only [List.length_append, List.length_cons]
          omega
        · rw [List.length_append]
          rfl
        · rw [List.reverse_append]
          exact (Ents.app (tLb.same scf) (Ents.rev (tp.same sf))).mut eLf kfg og
        · rw [hpp, List.flatMap_cons, pre_eq (LL tw own) e, List.flatMap_append]
          simp only [List.append_assoc, List.cons_append, List.nil_append]
        · intro y hy
          rcases List.mem_append.mp hy with hy | hy
          · exact hgd y hy
          · rw [List.mem_singleton] at hy
            rw [hy]
            exact hwe
end K27

set_option maxHeartbeats 8000000
namespace K27
open PySem PySem.Spec PyProof.Rows L2
variable {P : Program} {w : World} {K : PySem.W.Frag} {mg : Str → Option Value} {base : Heap}
def toldD : Option (Str × Nat) → PyData
  | none => .tuple [.str "let", .bool true]
  | some (z, p) => .tuple [.str z, .int (p : Nat)]
def spTold (K : PySem.W.Frag) : Sp := fun vs H Q _ => ∃ (v pv tv : V) (tw : List It) (own : Str) (ps : List (Str × Str)) (t : Tm) (k : Str), vs = [v, .str own, pv, .str k, tv] ∧ Td K H v (.tuple (tw.map It.data)) ∧ TwOk tw ∧ OwnOk tw own ∧ Td K H pv (.list (ps.map pairD)) ∧ Td K H tv t.data ∧
  (∀ y ∈ pre (LL tw own) (t, envL ps, k), Fine (LL tw own) y) ∧ (pre (LL tw own) (t, envL ps, k)).length ≤ 1000 ∧ ps.length + 2 * t.dep ≤ 200 ∧
  ∀ r H', Same H H' → Td K H' r (toldD (look (LL tw own) (t, envL ps, k))) → Q r H'
abbrev N_Ltold : List Str := ["_law_items_here", "_law_tongue_here", "_law_known", "_law_kind", "_law_term", "_law_found", "e"]
theorem sc_Ltold : FnScope N_Ltold ["_law_items_here", "_law_tongue_here", "_law_known", "_law_kind", "_law_term"] (defScope s_Ltold) := ⟨rfl, rfl, rfl, by decide +kernel, rfl, by decide +kernel, by decide +kernel⟩
theorem ok_Ltold (T : TX K mg) : Ok P w K mg base CX0 6 "_law_told" ["_law_items_here", "_law_tongue_here", "_law_known", "_law_kind", "_law_term"] (spTold K) := by
  refine Ok.mk' T T.m_Ltold T.f_Ltold sc_Ltold (fun vs H Q E h => ?_) (fun _ _ _ _ _ _ us hl => match us, hl with | [_, _, _, _, _], _ => rfl) (fun cdv A outer s H vs Q E hr h => ?_)
  · obtain ⟨v, pv, tv, tw, own, ps, t, k, rfl, _⟩ := h
    rfl
  · obtain ⟨v, pv', tv, tw, own, ps, t, k, rfl, dv, htw, hown, dp, dt, hfine, hlen, hdep, q⟩ := h
    have N := T.nt
    obtain ⟨hat, hkp, fd, F, bd⟩ := ok_look_term (P := P) (w := w) (base := base) T
    refine ⟨_, (pss_cons (ps_set (i := 5) sc_Ltold.nd rfl (Or.inl rfl) (pe_tup (pa_cons pe_str (pa_cons pe_int pa_nil))))
      (pss_cons (ps_try_as (i := 6) (tb := fun W => tAsg (tTup (tCons (tC (.str "let")) (tCons (tCallS (spLookTerm K) (WE W) (tCons (tVar 0) (tCons (tVar 1) (tCons (tVar 2) (tCons (tVar 3) (tCons (tVar 4) tNil)))))) tNil))) (gName 5)) (ts := fun a cls d => tAsg (tTup (tCons (tXf a cls d (NtC K) "word" (tVar 6)) (tCons (tXf a cls d (NtC K) "at" (tVar 6)) tNil))) (gName 5)) (Wout := fun _ _ _ _ => False) (c := .ref (NtC K)) rfl rfl sc_Ltold.nd rfl rfl ⟨rfl, by decide, .inl T.m_NoTerm⟩ takes0
        (fun W pn xe tk _ => pss_one (ps_set (i := 5) sc_Ltold.nd rfl (Or.inl rfl) (pe_tup (pa_cons pe_str (pa_cons (pe_callS F (hr.mono (by decide)) (by rfl) hat hkp bd (fun σ => passAt tk σ) (pa_cons (pv 0) (pa_cons (pv 1) (pa_cons (pv 2) (pa_cons (pv 3) (pa_cons (pv 4) pa_nil)))))) pa_nil)))))
        (fun a oe cls d pn hz hf => pss_one (ps_set (i := 5) sc_Ltold.nd rfl (Or.inl rfl) (pe_tup (pa_cons (pe_xf N.xf N.nw hz hf (pv 6)) (pa_cons (pe_xf N.xf N.na hz hf (pv 6)) pa_nil))))))
      (pss_one (ps_ret (pv 5))))), ?_⟩
    refine ⟨lz 2, fun p0 hp0 => ?_⟩
    generalize hE : upd H p0 _ = H1
    obtain ⟨s1, e1⟩ := mk hE hp0
    clear hE
    refine ⟨_, rfl, _, rfl, _, rfl, _, rfl, _, rfl, v, pv', tv, tw, own, ps, t, k, rfl, dv.mono (tk s1), htw, hown, dp.mono (tk s1), dt.mono (tk s1), hfine, hlen, hdep, fun hl H2 s2 => ?_, fun z p hl d H2 s2 ed => ?_⟩
    · refine ⟨lz 2, fun p1 hp1 => ?_⟩
      generalize hE : upd H2 p1 _ = H3
      obtain ⟨s3, e3⟩ := mk hE hp1
      refine ⟨_, rfl, q (.ref p1) H3 (s1.trans (s2.trans s3)) ?_⟩
      rw [hl]
      exact .at e3 (.cons (.str _) (.cons (.bl _) .nil))
    · refine ⟨true, N.ex, fun _ a ha => ?_, fun h => by cases h⟩
      refine ⟨_, rfl, rfl, rfl, d, _, _, rfl, ed, rfl, _, rfl, rfl, rfl, d, _, _, rfl, ed, rfl, lz 2, fun p1 hp1 => ?_⟩
      generalize hE : upd H2 p1 _ = H3
      obtain ⟨s3, e3⟩ := mk hE hp1
      refine ⟨_, rfl, q (.ref p1) H3 (s1.trans (s2.trans s3)) ?_⟩
      rw [hl]
      exact .at e3 (.cons (.str _) (.cons (.int _) .nil))
end K27

set_option maxHeartbeats 8000000
namespace K27
open PySem PySem.Spec PyProof.Rows L2
variable {P : Program} {w : World} {K : PySem.W.Frag} {mg : Str → Option Value} {base : Heap}
/-! ### what the law asks of a part -/
theorem wdL_le {n : Nat} : ∀ {l : List Tm}, (∀ t ∈ l, t.wd ≤ n) → wdL l ≤ n
  | [], _ => Nat.zero_le _
  | t :: l, h => by
    simp only [wdL]
    have h1 := h t List.mem_cons_self
    have h2 := wdL_le fun u hu => h u (List.mem_cons_of_mem t hu)
    omega
theorem wd_max (t : Tm) : t.wd ≤ max (things t).length (wdL (things t)) := by
  cases t <;> simp only [Tm.wd, things] <;> omega
theorem slots_len {T : Tongue} {hs : List Hd} (okT : TongOk T) (okH : HdsOk T hs) (t : Tm) : (slots (langT T hs) t).length ≤ 7 := by
  unfold slots
  cases t with
  | call f a =>
    simp only
    cases hp : (langT T hs).head f with
    | none => exact Nat.zero_le _
    | some p =>
      simp only
      rw [List.length_map]
      exact okH.args p (List.mem_of_find?_eq_some hp)
  | use t' h a =>
    simp only
    cases hp : (langT T hs).form h with
    | none => exact Nat.zero_le _
    | some f =>
      simp only
      obtain ⟨fo, hfo, rfl⟩ := form_find hp
      exact Nat.le_trans (List.length_filter_le _ _) (okT.form fo (List.mem_of_find?_eq_some hfo)).2.2.2
  | _ => exact Nat.zero_le _
theorem good_wd {T : Tongue} {hs : List Hd} (okT : TongOk T) (okH : HdsOk T hs) {e : Entry} (g : Good (langT T hs) e) : e.1.wd ≤ 7 := by
  induction g with
  | mk a b ih =>
    rename_i e
    obtain ⟨h1, h2⟩ := things_of_ok a
    have h7 := slots_len okT okH e.1
    have hw : wdL (things e.1) ≤ 7 := wdL_le fun u hu => by
      obtain ⟨i, hi⟩ := List.getElem?_of_mem hu
      have hil := (List.getElem?_eq_some_iff.mp hi).1
      obtain ⟨s, hs'⟩ : ∃ s, (slots (langT T hs) e.1)[i]? = some s := ⟨_, List.getElem?_eq_getElem (by omega)⟩
      have hm : (s, u) ∈ both (langT T hs) e.1 := List.mem_of_getElem? ((List.getElem?_zip_eq_some (z := (s, u))).mpr ⟨hs', hi⟩)
      have hf := List.all_eq_true.mp h2 _ hm
      cases s with
      | sign z => cases u <;> cases hf
      | lit => cases u <;> first | exact Nat.zero_le _ | cases hf
      | name z => cases u <;> first | exact Nat.zero_le _ | cases hf
      | term k os => exact ih (u, opened e.2.1 (binds (both (langT T hs) e.1)) os, k) (List.mem_filterMap.mpr ⟨_, hm, rfl⟩)
    have h3 : (things e.1).length ≤ 7 := by omega
    have h4 := wd_max e.1
    omega
theorem mem_flat_len {α β : Type} {f : α → List β} {l : List α} {a : α} (h : a ∈ l) : (f a).length ≤ (l.flatMap f).length := by
  induction l with
  | nil => cases h
  | cons x l ih =>
    rw [List.flatMap_cons, List.length_append]
    rcases List.mem_cons.mp h with rfl | h
    · omega
    · have := ih h
      omega
theorem mem_pre_len {L : Lang} : ∀ {e y : Entry}, y ∈ pre L e → (pre L y).length ≤ (pre L e).length := by
  suffices ∀ n, ∀ e : Entry, sizeOf e.1 ≤ n → ∀ y ∈ pre L e, (pre L y).length ≤ (pre L e).length from fun {e y} hy => this _ e (Nat.le_refl _) y hy
  intro n
  induction n with
  | zero =>
    intro e he
    have : 0 < sizeOf e.1 := by cases e.1 <;> simp <;> omega
    omega
  | succ n ih =>
    intro e he y hy
    rw [pre_eq] at hy
    rcases List.mem_cons.mp hy with rfl | hy
    · exact Nat.le_refl _
    · obtain ⟨z, hz, hyz⟩ := List.mem_flatMap.mp hy
      have hlt := mem_things_lt (mem_inner hz)
      have h1 := ih z (by omega) y hyz
      have h2 := mem_flat_len (f := pre L) hz
      rw [pre_eq L e, List.length_cons]
      omega
theorem KvE.env {ps : List (Str × Str)} {r : Sg} (h : KvE (ps.map kvOf) r) : envL ps = r := by
  have hn : (ps.map (·.1)).Nodup := by
    have h4 := h.nd
    rw [List.map_map] at h4
    refine List.pairwise_map.mpr ((List.pairwise_map.mp h4).imp fun {a b} ne e => ne ?_)
    exact congrArg Sum.inr e
  funext y
  unfold envL
  rw [foldl_over hn]
  have h4 := h.val y
  rw [valV_kvOf] at h4
  have inj : ∀ a b : Option Str, a.map V.str = b.map V.str → a = b := fun a b e => by
    cases a <;> cases b <;> first | rfl | cases e
    rfl
  rw [inj _ _ h4]
  cases r y <;> rfl
theorem Bx.dk {H : Hp} {b d : Addr} {kvs : List (Key × V)} (h : Bx H b) (e : H d = some (.dK kvs)) : d ≠ b := fun z => by
  obtain ⟨i, j, k, h⟩ := h
  rw [z, h] at e
  cases e
theorem Ent.but {H H' : Hp} {b : Addr} {v : V} {x : Entry} (h : Ent K H v x) (bx : Bx H b) (hB : But b H H') : Ent K H' v x := by
  obtain ⟨a, tv, d, kvs, e, h1, h2, h3, h4, h5⟩ := h
  exact ⟨a, tv, d, kvs, e, hB.tup bx _ _ rfl h1, h2.mono (hB.tup bx), hB _ _ (bx.dk h3) h3, h4, h5⟩
theorem Rul.but {H H' : Hp} {b : Addr} {rv : V} {T : Tongue} {hs : List Hd} (h : Rul K H rv T hs) (bx : Bx H b) (hB : But b H H') : Rul K H' rv T hs := by
  obtain ⟨ra, tv, hl, hv, e, h1, h2, h3, h4⟩ := h.ex
  have k := hB.tup bx
  refine ⟨⟨ra, tv, hl, hv, e, h1.mono k, h2.mono k, hB _ _ (bx.atR h3 (h4.refs fun d hd => ?_)) h3, h4.mono k⟩, h.ok, h.hok⟩
  obtain ⟨q, _, rfl⟩ := List.mem_map.mp hd
  exact ⟨_, rfl⟩
theorem fine_none {L : Lang} {e : Entry} (h : wrong L e = none) : Fine L e := ⟨Good.isT' h, .inl h⟩
/-- a good part, with any kind due -/
theorem good_any {L : Lang} {t : Tm} {r : Sg} {k : Str} (g : Good L (t, r, k)) (k' : Str) : (∀ y ∈ pre L (t, r, k'), Fine L y) ∧ look L (t, r, k') = (if k' = k then none else some (("kind" : Str), 0)) ∧ wrong L (t, r, k') = (if k' = k then none else some ("kind" : Str)) := by
  have hw : wrong L (t, r, k') = (if k' = k then none else some ("kind" : Str)) := by
    by_cases h : k' = k
    · rw [if_pos h, h]
      exact g.ok
    · rw [if_neg h]
      exact wrong_kind g.ok fun e => h e.symm
  refine ⟨fun y hy => ?_, ?_, hw⟩
  · rcases g.pre_any y hy with rfl | gy
    · refine ⟨Good.isT' (e := (t, r, k)) g.ok, ?_⟩
      rw [hw]
      by_cases h : k' = k
      · rw [if_pos h]
        exact .inl rfl
      · rw [if_neg h]
        exact .inr (.inl rfl)
    · exact fine_none gy.ok
  · by_cases h : k' = k
    · rw [if_pos h, h]
      exact look_good g
    · rw [if_neg h] at hw ⊢
      exact look_wrong hw
/-- a term put in the place of a part -/
theorem put_told {L : Lang} {e x : Entry} {o : Tm} {p : Nat} {k : Str} (g : Good L e) (hx : (pre L e)[p]? = some x) (ho : isT o = true) (go : Good L (o, x.2.1, k)) :
    (∀ y ∈ pre L (put e.1 p o, e.2), Fine L y) ∧ look L (put e.1 p o, e.2) = (if k = x.2.2 then none else some (("kind" : Str), p)) ∧ (pre L (put e.1 p o, e.2)).length ≤ psize o + psize e.1 := by
  obtain ⟨h1, h2, h3⟩ := good_any go x.2.2
  refine ⟨fun y hy => ?_, ?_, ?_⟩
  · rcases put_all g hx ho y hy with h | h
    · exact fine_none h
    · exact h1 y h
  · by_cases h : k = x.2.2
    · rw [if_pos h]
      refine look_put_good g hx ho ?_
      have go' := go
      rw [h] at go'
      exact go'
    · rw [if_neg h]
      rw [if_neg fun z => h z.symm] at h3
      exact look_put_wrong g hx ho h3
  · have hl := put_len g ho p x hx
    have h4 := go.pre_len_any (k' := x.2.2)
    have h5 := pre_len g
    have h6 : (pre L (o, x.2)).length = psize o := h4
    omega
/-- a name that is not in sight put in the place of a part -/
theorem put_lost {L : Lang} {e x : Entry} {z : Str} {p : Nat} (g : Good L e) (hx : (pre L e)[p]? = some x) (hz : x.2.1 z = none) :
    (∀ y ∈ pre L (put e.1 p (.name z), e.2), Fine L y) ∧ look L (put e.1 p (.name z), e.2) = some (("lost" : Str), p) ∧ (pre L (put e.1 p (.name z), e.2)).length ≤ 1 + psize e.1 := by
  have hw : wrong L (.name z, x.2) = some ("lost" : Str) := by
    obtain ⟨t, r, k⟩ := x
    unfold wrong
    simp only at hz ⊢
    rw [hz]
  refine ⟨fun y hy => ?_, look_put_wrong g hx rfl hw, ?_⟩
  · rcases put_all g hx rfl y hy with h | h
    · exact fine_none h
    · rw [name_pre, List.mem_singleton] at h
      rw [h]
      exact ⟨rfl, .inr (.inr hw)⟩
  · have hl := put_len (o := .name z) g rfl p x hx
    have h5 := pre_len g
    rw [name_pre] at hl
    simp only [List.length_cons, List.length_nil] at hl
    omega
end K27

set_option maxHeartbeats 8000000
namespace K27
open PySem PySem.Spec PyProof.Rows L2
variable {P : Program} {w : World} {K : PySem.W.Frag} {mg : Str → Option Value} {base : Heap}
theorem told_dp {H : Hp} {v : V} {o : Option (Str × Nat)} (h : Td K H v (toldD o)) : Dp K H v (toldD o) := by
  cases o with
  | none => exact Td.dpB h
  | some q => exact Td.dpI h
theorem str_sh {z : Str} {i : Int} (h : PyData.strOk z = true) : SeqAt.shaped (.tuple [.str z, .int i]) = true := by
  simp [SeqAt.shaped, PyData.canLay0, PyData.canLayAll0, PyData.depth, PyData.depthAll, h]
theorem let_sh : SeqAt.shaped (toldD none) = true := by
  have h : PyData.strOk ("let" : Str) = true := by decide +kernel
  simp [toldD, SeqAt.shaped, PyData.canLay0, PyData.canLayAll0, PyData.depth, PyData.depthAll, h]
theorem kind_sh (n : Nat) : SeqAt.shaped (toldD (some (("kind" : Str), n))) = true := str_sh (by decide +kernel)
theorem lost_sh (n : Nat) : SeqAt.shaped (toldD (some (("lost" : Str), n))) = true := str_sh (by decide +kernel)
theorem told_sh {c : Prop} [Decidable c] (n : Nat) : SeqAt.shaped (toldD (if c then none else some (("kind" : Str), n))) = true := by
  split
  · exact let_sh
  · exact kind_sh n
theorem told_eqv (o : Option (Str × Nat)) : PyData.eqv (toldD o) (toldD o) = true := by
  cases o with
  | none => simp [toldD, PyData.eqv, PyData.eqvAll]
  | some q => simp [toldD, PyData.eqv, PyData.eqvAll]
theorem tds_items {H : Hp} : ∀ {ts : List Addr} {ps : List (Str × Str)}, Paired (fun (t : Addr) (q : Key × V) => H t = some (.tup [kV q.1, q.2])) ts (ps.map kvOf) → Tds K H (ts.map V.ref) (ps.map pairD)
  | [], [], _ => .nil
  | [], _ :: _, h => by cases h
  | _ :: _, [], h => by cases h
  | t :: ts, p :: ps, .cons h1 h2 => .cons (.at h1 (.cons (.str _) (.cons (.str _) .nil))) (tds_items h2)
def spPlace (K : PySem.W.Frag) : Sp := fun vs H Q _ => ∃ (b : Addr) (v rv : V) (oa ta ea : Addr) (bv pv : V) (tw : List It) (own : Str) (ps : List (Str × Str)) (body : Tm) (gives : Str) (x : Entry) (p : Nat), vs = [.ref b, v, rv, .ref oa, .int (p : Nat)] ∧ Bx H b ∧ Td K H v (.tuple (tw.map It.data)) ∧ TwOk tw ∧ OwnOk tw own ∧
  Rul K H rv (tongueOf tw own) (headsOf tw own) ∧ H oa = some (.tup [.ref ta, .ref ea]) ∧ H ta = some (.tup [bv, pv, .str gives]) ∧ Td K H bv body.data ∧ Td K H pv (.list (ps.map pairD)) ∧ Ent K H (.ref ea) x ∧
  Good (LL tw own) (body, envL ps, gives) ∧ (pre (LL tw own) (body, envL ps, gives))[p]? = some x ∧ psize body ≤ 64 ∧ body.dep ≤ 3 ∧ ps.length ≤ 3 ∧ ∀ H', But b H H' → Bx H' b → Q (.bl true) H'
abbrev N_Lplace_right : List Str := ["_law_box_here", "_law_items_here", "_law_rules", "_law_one", "_law_p", "_law_body", "_law_params", "_law_gives", "_law_part", "_law_sight", "_law_due", "_law_own", "_law_known", "_law_kind", "_law_down", "_law_small", "_law_told_here", "_law_lost"]
theorem sc_Lplace_right : FnScope N_Lplace_right ["_law_box_here", "_law_items_here", "_law_rules", "_law_one", "_law_p"] (defScope s_Lplace_right) := ⟨rfl, rfl, rfl, by decide +kernel, rfl, by decide +kernel, by decide +kernel⟩
theorem ok_Lplace_right (T : TX K mg) : Ok P w K mg base CX0 7 "_law_place_right" ["_law_box_here", "_law_items_here", "_law_rules", "_law_one", "_law_p"] (spPlace K) := by
  refine Ok.mk' T T.m_Lplace_right T.f_Lplace_right sc_Lplace_right (fun vs H Q E h => ?_) (fun _ _ _ _ _ _ us hl => match us, hl with | [_, _, _, _, _], _ => rfl) (fun cdv A outer s H vs Q E hr h => ?_)
  · obtain ⟨b, v, rv, oa, ta, ea, bv, pv, tw, own, ps, body, gives, x, p, rfl, _⟩ := h
    rfl
  · obtain ⟨b, v, rv, oa, ta, ea, bv, pv', tw, own, ps, body, gives, x, p, rfl, bx, dv, htw, hown, hR, eoa, eta, db, dp, hE, hG, hx, hsz, hdp, hps, q⟩ := h
    have hu := hu_of hr
    have hu64 := hr.units
    refine ⟨_, (pss_cons (ps_asg (pe_tup (pa_cons (pe_ix ix_tup (pv 3) pe_int (fun _ _ => rfl)) (pa_cons (pe_ix ix_tup (pv 3) pe_int (fun _ _ => rfl)) pa_nil))) (pg_tup rfl (pgs_cons (pg_tup rfl (pgs_cons (pg_name (i := 5) sc_Lplace_right.nd rfl (.inl rfl)) (pgs_cons (pg_name (i := 6) sc_Lplace_right.nd rfl (.inl rfl)) (pgs_cons (pg_name (i := 7) sc_Lplace_right.nd rfl (.inl rfl)) pgs_nil)))) (pgs_cons (pg_tup rfl (pgs_cons (pg_name (i := 8) sc_Lplace_right.nd rfl (.inl rfl)) (pgs_cons (pg_name (i := 9) sc_Lplace_right.nd rfl (.inl rfl)) (pgs_cons (pg_name (i := 10) sc_Lplace_right.nd rfl (.inl rfl)) pgs_nil)))) pgs_nil))))
      (pss_cons (ps_par (i := 11) (j := 12) (by rfl) sc_Lplace_right.nd rfl rfl (by decide) rfl rfl (pa_cons (pe_ix ix_tup (pe_ix ix_tup (pv 2) pe_int (fun _ _ => rfl)) pe_int (fun _ _ => rfl)) (pa_cons (pe_callTy call_tupleF (by rfl) T.n_tuple (by decide +kernel) (pa_cons (LiI.pe_listItems rfl (pv 9) (by rfl) T.n_list (by decide +kernel)) pa_nil)) pa_nil)) (by rfl))
      (pss_cons (ps_for PassesOwn.never rfl (pi_tup (pe_ix ix_tup (pe_ix ix_tup (pv 2) pe_int (fun _ _ => rfl)) pe_int (fun _ _ => rfl))) (pg_tup rfl (pgs_cons (pg_name (i := 13) sc_Lplace_right.nd rfl (.inl rfl)) (pgs_cons (pg_name (i := 14) sc_Lplace_right.nd rfl (.inl rfl)) pgs_nil)))
        (pss_cons (ps_if (pt_cmpR (op_neD hu64) (pe_ok (ok_Ltold T) hr (by decide) (by rfl) (pa_cons (pv 1) (pa_cons (pv 11) (pa_cons (pv 12) (pa_cons (pv 13) (pa_cons (pv 8) pa_nil))))) pass0) (pe_ix ix_list (pe_lst (pa_cons (pe_tup (pa_cons pe_str (pa_cons pe_int pa_nil))) (pa_cons (pe_tup (pa_cons pe_str (pa_cons pe_bl pa_nil))) pa_nil))) (pe_callTy call_int1 (by rfl) T.n_int (by decide +kernel) (pa_cons (pe_cmpR op_eq (pv 13) (pv 10) (nomark _)) pa_nil)) (fun _ _ => rfl)) (nomark _))
          (pss_one (ps_ret pe_bl))
          pss_nil)
        (pss_cons (ps_set (i := 15) sc_Lplace_right.nd rfl (Or.inl rfl) (pe_ok (ok_Ldraw T 0) hr (by decide) (by rfl) (pa_cons (pv 0) (pa_cons (pe_tup (pa_cons (pe_ix ix_tup (pv 2) pe_int (fun _ _ => rfl)) (pa_cons (pe_lst pa_nil) (pa_cons (pe_lst pa_nil) pa_nil)))) (pa_cons (pv 13) (pa_cons (pe_lst pa_nil) (pa_cons pe_int pa_nil))))) pass0))
        (pss_cons (ps_set (i := 16) sc_Lplace_right.nd rfl (Or.inl rfl) (pe_ok (ok_Ltold T) hr (by decide) (by rfl) (pa_cons (pv 1) (pa_cons (pv 11) (pa_cons (pv 6) (pa_cons (pv 7) (pa_cons (pe_ok (ok_Lput T 3) hr (by decide) (by rfl) (pa_cons (pv 5) (pa_cons (pv 4) (pa_cons (pv 15) pa_nil))) pass0) pa_nil))))) pass0))
        (pss_one (ps_if (pt_cmpR (op_neD hu64) (pv 16) (pe_ix ix_list (pe_lst (pa_cons (pe_tup (pa_cons pe_str (pa_cons (pv 4) pa_nil))) (pa_cons (pe_tup (pa_cons pe_str (pa_cons pe_bl pa_nil))) pa_nil))) (pe_callTy call_int1 (by rfl) T.n_int (by decide +kernel) (pa_cons (pe_cmpR op_eq (pv 13) (pv 10) (nomark _)) pa_nil)) (fun _ _ => rfl)) (nomark _))
          (pss_one (ps_ret pe_bl))
          pss_nil))))))
      (pss_cons (ps_set (i := 17) sc_Lplace_right.nd rfl (Or.inl rfl) (pe_ok (ok_Lput T 3) hr (by decide) (by rfl) (pa_cons (pv 5) (pa_cons (pv 4) (pa_cons (pe_tup (pa_cons pe_str (pa_cons pe_str pa_nil))) pa_nil))) pass0))
      (pss_one (ps_ret (pe_or (pe_cmp (pc_din hu pe_str (pv 9)) rfl) (pe_one (pe_cmpR (op_eqD hu64) (pe_ok (ok_Ltold T) hr (by decide) (by rfl) (pa_cons (pv 1) (pa_cons (pv 11) (pa_cons (pv 6) (pa_cons (pv 7) (pa_cons (pv 17) pa_nil))))) pass0) (pe_tup (pa_cons pe_str (pa_cons (pv 4) pa_nil))) (nomark _)))))))))), ?_⟩
    obtain ⟨okT, hnm⟩ := tongueOf_ok htw hown
    obtain ⟨d, hxd, hEd, kvs, eE, he1, hE1, he2, hkE, hdl⟩ : ∃ (d : Addr) (xv : V) (_ : True) (kvs : List (Key × V)), (V.ref ea = .ref ea) ∧ H ea = some (.tup [xv, .ref d, .str x.2.2]) ∧ Td K H xv x.1.data ∧ H d = some (.dK kvs) ∧ KvE kvs x.2.1 ∧ kvs.length + 2 * x.1.dep ≤ 200 := by
      obtain ⟨a, tv, d, kvs, e, h1, h2, h3, h4, h5⟩ := hE
      cases e
      exact ⟨d, tv, trivial, kvs, rfl, h1, h2, h3, h4, h5⟩
    have hRx := hR.ex
    obtain ⟨ra, Tv, hl, hv, rfl, hra, dT, _, _⟩ := hRx
    obtain ⟨aT, w1, w2, w3, w4, w5, w6, w7, rfl, hTB, t1, t2, t3, t4, t5, t6, t7⟩ := Td.i7 dT
    have t2' : w2 = .str own := by
      rw [← hnm]
      exact t2.strI
    subst t2'
    obtain ⟨ak, ksv, rfl, hak, hks⟩ := Td.inv t4
    clear t1 t3 t4 t5 t6 t7
    have hkl : ksv.length = (tongueOf tw own).kinds.length := by rw [hks.len, List.length_map]
    refine ⟨_, rfl, oa, _, 0, .ref ta, rfl, rfl, .inl (.inl eoa), rfl, _, rfl, oa, _, 1, .ref ea, rfl, rfl, .inl (.inl eoa), rfl, lz 2, fun q0 hq0 => ?_⟩
    generalize hE' : upd H q0 _ = H0
    obtain ⟨s0, e0⟩ := mk hE' hq0
    clear hE'
    refine ⟨q0, _, rfl, .inl (.inl e0), rfl, _, _, rfl, ta, _, rfl, .inl (.inl (s0 _ _ eta)), rfl, _, _, rfl, _, _, rfl, _, _, rfl, rfl, _, _, rfl, ea, _, rfl, .inl (.inl (s0 _ _ he1)), rfl, _, _, rfl, _, _, rfl, _, _, rfl, rfl, rfl, ?_⟩
    refine ⟨_, rfl, ra, _, 0, .ref aT, rfl, rfl, (hra.mono (tk s0)).sq, rfl, aT, _, 1, .str own, rfl, rfl, (hTB.mono (tk s0)).sq, rfl, _, rfl, d, kvs, rfl, s0 _ _ he2, fun H2 Ls ts s2 nLs nts hLts eLs hpa => ?_⟩
    refine ⟨Ls, _, rfl, .inl (.inl eLs), fun kn ko hkn hko => ⟨_, _, rfl, ?_⟩⟩
    generalize hE' : upd H2 kn _ = H1
    obtain ⟨s3, ekn⟩ := mk hE' hkn
    clear hE'
    have s2 : Same H0 H2 := s2
    obtain ⟨ps', rfl⟩ := hkE.shp
    have henv := hkE.env
    have s1 : Same H H1 := s0.trans (s2.trans s3)
    have dkn : Td K H1 (.ref kn) (.list (ps'.map pairD)) := .ptup ekn hko ((tds_items hpa).mono (tk s3))
    have bx1 : Bx H1 b := bx.same s1
    have hR1 := hR.same s1
    have dv1 := dv.mono (tk s1)
    have db1 := db.mono (tk s1)
    have dp1 := dp.mono (tk s1)
    have dxd1 := hE1.mono (tk s1)
    have hra1 := hra.mono (tk s1)
    have hTB1 := hTB.mono (tk s1)
    have hak1 := hak.mono (tk s1)
    have hks1 := hks.mono (tk s1)
    have dT1 := dT.mono (tk s1)
    have ed1 := s1 _ _ he2
    rw [List.length_map] at hdl
    clear hpa eLs nts hLts nLs s3 ekn s2 hkn s0 e0 hq0
    have hxm : x ∈ pre (LL tw own) (body, envL ps, gives) := List.mem_of_getElem? hx
    have hgx : Good (LL tw own) (x.1, x.2.1, x.2.2) := hG.mem x hxm
    have hlenx := mem_pre_len hxm
    have hpl := pre_len hG
    have hpl' : (pre (LL tw own) (body, envL ps, gives)).length = psize body := hpl
    have hsx : psize x.1 ≤ 64 := by
      have h1 : (pre (LL tw own) x).length = psize x.1 := hgx.pre_len_any (k' := x.2.2)
      omega
    have hpp : p < psize body := by
      have := (List.getElem?_eq_some_iff.mp hx).1
      omega
    have hbt : isT body = true := hG.isT
    have hwd : body.wd ≤ 1000 := by
      have h1 := good_wd okT (heads_ok htw) hG
      have h1' : body.wd ≤ 7 := h1
      omega
    refine ⟨_, rfl, ra, _, 0, .ref aT, rfl, rfl, hra1.sq, rfl, aT, _, 3, .ref ak, rfl, rfl, hTB1.sq, rfl, ak, rfl, ⟨_, hak1.sq⟩, ?_⟩
    refine for_it (walk_tup (K := K) (a := ak) (xs := ksv)) (fun i σ H' => ∃ y13 y14 y15 y16, σ = [some (.ref b), some v, some (.ref ra), some (.ref oa), some (.int (p : Nat)), some bv, some pv', some (.str gives), some hxd, some (.ref d), some (.str x.2.2), some (.str own), some (.ref kn), y13, y14, y15, y16, none] ∧ But b H1 H' ∧ Bx H' b)
      ⟨none, none, none, none, rfl, But.refl _ _, bx1⟩ (fun i σ H' _ hP => ?_) (fun i y σ Ha Hb hi hP hY => ?_) (fun σ Ha hP => ?_)
    · obtain ⟨_, _, _, _, _, hB, _⟩ := hP
      exact (hak1.mono (hB.tup bx1)).sq
    · obtain ⟨y13, y14, y15, y16, rfl, hB, bxa⟩ := hP
      obtain ⟨rfl, hy⟩ := hY
      have ka := hB.tup bx1
      obtain ⟨dd, hdd, dx⟩ := (hks1.mono ka).getV hy
      obtain ⟨qk, hqk, rfl⟩ := map_at hdd
      obtain ⟨a', v1, v2, rfl, hTa, g1, g2⟩ := Td.i2 dx
      obtain rfl := g1.strI
      obtain rfl := g2.strI
      refine ⟨a', _, rfl, hTa.sq, rfl, _, _, rfl, _, _, rfl, rfl, ?_⟩
      obtain ⟨f1, f2, f3⟩ := good_any hgx qk.1
      have f4 : (pre (LL tw own) (x.1, x.2.1, qk.1)).length = psize x.1 := hgx.pre_len_any
      rw [← henv] at f1 f2 f4
      refine ⟨_, rfl, _, rfl, _, rfl, _, rfl, _, rfl, v, .ref kn, hxd, tw, own, ps', x.1, qk.1, rfl, dv1.mono ka, htw, hown, dkn.mono ka, dxd1.mono ka, f1, by omega, hdl, fun r1 Hb sb dr => ?_⟩
      rw [f2] at dr
      have bxb := bxa.same sb
      have hBb := hB.trans (But.of sb)
      refine ⟨lz 2, fun p1 hp1 => ?_⟩
      generalize hE' : upd Hb p1 _ = Hc
      obtain ⟨sc, e1⟩ := mk hE' hp1
      refine ⟨lz 2, fun p2 hp2 => ?_⟩
      generalize hE' : upd Hc p2 _ = Hd
      obtain ⟨sd, e2⟩ := mk hE' hp2
      refine ⟨lz 2, fun L1 hL1 => ?_⟩
      generalize hE' : upd Hd L1 _ = Hf
      obtain ⟨sf, e3⟩ := mk hE' hL1
      clear hE'
      refine ⟨_, rfl, _, rfl, rfl, .inr ⟨_, rfl, L1, _, _, if qk.1 = x.2.2 then .ref p2 else .ref p1, rfl, rfl, .inl (.inl e3), ?_, toldD (if qk.1 = x.2.2 then none else some (("kind" : Str), 0)), toldD (if qk.1 = x.2.2 then none else some (("kind" : Str), 0)), told_dp (dr.mono (tk (sc.trans (sd.trans sf)))), ?_, told_sh (c := qk.1 = x.2.2) 0, told_sh (c := qk.1 = x.2.2) 0, ?_⟩⟩
      · rw [decV]
        by_cases h : qk.1 = x.2.2
        · rw [if_pos h, decide_eq_true h]
          rfl
        · rw [if_neg h, decide_eq_false h]
          rfl
      · by_cases h : qk.1 = x.2.2
        · rw [if_pos h, if_pos h]
          exact .tup (.inl (.inl (sf _ _ e2))) (.cons (.str _) (.cons (.bl _) .nil))
        · rw [if_neg h, if_neg h]
          exact .tup (.inl (.inl ((sd.trans sf) _ _ e1))) (.cons (.str _) (.cons (.int _) .nil))
      refine ⟨_, rfl, ifF (by rw [told_eqv]; rfl) ?_⟩
      have sbf := sc.trans (sd.trans sf)
      have bxf := bxb.same sbf
      have hBf := hBb.trans (But.of sbf)
      clear e1 e2 e3 hp1 hp2 hL1 sc sd sf dr hTa dx
      have kf := hBf.tup bx1
      refine ⟨_, rfl, _, rfl, ra, _, 0, .ref aT, rfl, rfl, (hra1.mono kf).sq, rfl, lz 0, fun ca hca => ?_⟩
      generalize hE' : upd Hf ca _ = Hg
      obtain ⟨sg1, eca⟩ := mk hE' hca
      refine ⟨lz 0, fun na hna => ?_⟩
      generalize hE' : upd Hg na _ = Hh
      obtain ⟨sg2, ena⟩ := mk hE' hna
      refine ⟨lz 3, fun sc hsc => ?_⟩
      generalize hE' : upd Hh sc _ = Hi
      obtain ⟨sg3, esc⟩ := mk hE' hsc
      refine ⟨_, rfl, lz 0, fun sg hsg => ?_⟩
      generalize hE' : upd Hi sg _ = Hj
      obtain ⟨sg4, esg⟩ := mk hE' hsg
      clear hE'
      have sfj := sg1.trans (sg2.trans (sg3.trans sg4))
      have kj := kf.trans (tk sfj)
      have hBj := hBf.trans (But.of sfj)
      refine ⟨b, sc, sg, ca, na, .ref aT, 1, qk.1, tongueOf tw own, [], [], [], [], [], rfl, ⟨bxf.same sfj, by decide, by decide, .inl (sg4 _ _ esc), dT1.mono kj, (sg2.trans (sg3.trans sg4)) _ _ eca, .nil, (sg3.trans sg4) _ _ ena, esg, .nil, okT, ⟨List.nodup_nil, (fun _ h => by cases h), by decide, (fun _ h => by cases h)⟩, List.mem_map.mpr ⟨qk, List.mem_of_getElem? hqk, rfl⟩, List.nodup_nil, (fun _ h => by cases h), .inr (by decide), by decide, by decide, (fun _ h => by cases h)⟩, fun ov Hk o hBk bxk dO hto hgo hso hdo => ?_⟩
      have hBk1 := hBj.trans hBk
      have kk := hBk1.tup bx1
      clear eca ena esc esg hca hna hsc hsg sg1 sg2 sg3 sg4
      have go : Good (LL tw own) (o, x.2.1, qk.1) := Good.mono (L := langT (tongueOf tw own) []) (L' := LL tw own) rfl (fun _ _ e => e) (fun f p e => by have e' : (none : Option (Str × List Str × Str)) = some p := e; cases e') hgo x.2.1 (fun y k e => by have e' : (none : Option Str) = some k := e; cases e')
      obtain ⟨f5, f6, f7⟩ := put_told hG hx hto go
      have hso' : psize o ≤ 1 := hso
      have hdo' : o.dep ≤ 1 := hdo
      have hdep := dep_put body p o
      have f7' : (pre (LL tw own) (put body p o, envL ps, gives)).length ≤ psize o + psize body := f7
      refine ⟨_, rfl, _, rfl, _, rfl, _, rfl, _, rfl, _, rfl, _, rfl, bv, ov, body, o, p, rfl, db1.mono kk, dO, hbt, hdp, by omega, hwd, hpp, fun r2 Hl sl dr2 => ⟨v, pv', r2, tw, own, ps, put body p o, gives, rfl, dv1.mono (kk.trans (tk sl)), htw, hown, dp1.mono (kk.trans (tk sl)), dr2, f5, by omega, by omega, fun r3 Hm sm dr3 => ?_⟩⟩
      rw [show look (LL tw own) (put body p o, envL ps, gives) = _ from f6] at dr3
      have sklm : Same Hk Hm := sl.trans sm
      have bxm := bxk.same sklm
      have hBm := hBk1.trans (But.of sklm)
      refine ⟨_, rfl, _, rfl, lz 2, fun p1 hp1 => ?_⟩
      generalize hE' : upd Hm p1 _ = Hc
      obtain ⟨sc, e1⟩ := mk hE' hp1
      refine ⟨lz 2, fun p2 hp2 => ?_⟩
      generalize hE' : upd Hc p2 _ = Hd
      obtain ⟨sd, e2⟩ := mk hE' hp2
      refine ⟨lz 2, fun L1 hL1 => ?_⟩
      generalize hE' : upd Hd L1 _ = Hn
      obtain ⟨sf, e3⟩ := mk hE' hL1
      clear hE'
      refine ⟨_, rfl, _, rfl, rfl, .inr ⟨_, rfl, L1, _, _, if qk.1 = x.2.2 then .ref p2 else .ref p1, rfl, rfl, .inl (.inl e3), ?_, toldD (if qk.1 = x.2.2 then none else some (("kind" : Str), p)), toldD (if qk.1 = x.2.2 then none else some (("kind" : Str), p)), told_dp (dr3.mono (tk (sc.trans (sd.trans sf)))), ?_, told_sh (c := qk.1 = x.2.2) p, told_sh (c := qk.1 = x.2.2) p, ?_⟩⟩
      · rw [decV]
        by_cases h : qk.1 = x.2.2
        · rw [if_pos h, decide_eq_true h]
          rfl
        · rw [if_neg h, decide_eq_false h]
          rfl
      · by_cases h : qk.1 = x.2.2
        · rw [if_pos h, if_pos h]
          exact .tup (.inl (.inl (sf _ _ e2))) (.cons (.str _) (.cons (.bl _) .nil))
        · rw [if_neg h, if_neg h]
          exact .tup (.inl (.inl ((sd.trans sf) _ _ e1))) (.cons (.str _) (.cons (.int _) .nil))
      have smn := sc.trans (sd.trans sf)
      exact ⟨_, rfl, ifF (by rw [told_eqv]; rfl) ⟨_, _, _, _, rfl, hBm.trans (But.of smn), bxm.same smn⟩⟩
    · obtain ⟨y13, y14, y15, y16, rfl, hB, bxa⟩ := hP
      have ka := hB.tup bx1
      refine ⟨_, rfl, _, rfl, lz 2, fun ol hol => ?_⟩
      generalize hE' : upd Ha ol _ = Hb
      obtain ⟨sb, eol⟩ := mk hE' hol
      clear hE'
      have kb := ka.trans (tk sb)
      have dol : Td K Hb (.ref ol) (Tm.name "lostly").data := by
        unfold Tm.data
        exact .at eol (.cons (.str _) (.cons (.str _) .nil))
      refine ⟨bv, .ref ol, body, .name "lostly", p, rfl, db1.mono kb, dol, hbt, hdp, by omega, hwd, hpp, fun r2 Hc sc dr2 => ?_⟩
      have sac := sb.trans sc
      have bxc := bxa.same sac
      have hBc := hB.trans (But.of sac)
      have kc := hBc.tup bx1
      have edc : Hc d = some (.dK (ps'.map kvOf)) := hBc _ _ (bx1.dk ed1) ed1
      have hval := hkE.val "lostly"
      refine ⟨_, rfl, d, valV (ps'.map kvOf) (.inr "lostly"), rfl, DGet.k (k := .inr "lostly") edc, _, rfl, ?_⟩
      cases hz : x.2.1 "lostly" with
      | some k' =>
        rw [hz] at hval
        rw [hval]
        exact q Hc ((But.of s1).trans hBc) bxc
      | none =>
        rw [hz] at hval
        rw [hval]
        obtain ⟨f1, f2, f3⟩ := put_lost hG hx hz
        have hdep := dep_put body p (.name "lostly")
        have hd1 : (Tm.name "lostly").dep = 1 := rfl
        have f3' : (pre (LL tw own) (put body p (.name "lostly"), envL ps, gives)).length ≤ 1 + psize body := f3
        refine ⟨_, rfl, _, rfl, _, rfl, _, rfl, _, rfl, v, pv', r2, tw, own, ps, put body p (.name "lostly"), gives, rfl, dv1.mono kc, htw, hown, dp1.mono kc, dr2, f1, by omega, by omega, fun r3 Hd sd dr3 => ?_⟩
        rw [show look (LL tw own) (put body p (.name "lostly"), envL ps, gives) = _ from f2] at dr3
        refine ⟨_, rfl, lz 2, fun p1 hp1 => ?_⟩
        generalize hE' : upd Hd p1 _ = Hf
        obtain ⟨sf, e1⟩ := mk hE' hp1
        clear hE'
        refine ⟨toldD (some (("lost" : Str), p)), toldD (some (("lost" : Str), p)), told_dp (dr3.mono (tk sf)), .tup (.inl (.inl e1)) (.cons (.str _) (.cons (.int _) .nil)), lost_sh p, lost_sh p, ?_⟩
        rw [told_eqv]
        exact q Hf ((But.of s1).trans (hBc.trans (But.of (sd.trans sf)))) (bxc.same (sd.trans sf))
end K27

set_option maxHeartbeats 8000000
namespace K27
open PySem PySem.Spec PyProof.Rows L2
variable {P : Program} {w : World} {K : PySem.W.Frag} {mg : Str → Option Value} {base : Heap}
def spLaw (K : PySem.W.Frag) : Sp := fun vs H Q _ => ∃ (a : Addr) (ns : List Int), vs = [.ref a] ∧ SqL K H a (ns.map V.int) ∧ ns.length ≤ 63 ∧ ∀ H', Q (.bl true) H'
theorem seqL_same {H H' : Hp} {a : Addr} {xs : List V} (h : SqL K H a xs) (s : Same H H') : SqL K H' a xs := s.seq h
abbrev N_law : List Str := ["_law_script", "_law_k", "_law_box_here", "_law_items_here", "_law_item", "_law_rules", "_law_name", "_law_params", "_law_kind", "_law_body", "_law_p", "_law_place"]
theorem sc_law : FnScope N_law ["_law_script"] (defScope s_law) := ⟨rfl, rfl, rfl, by decide +kernel, rfl, by decide +kernel, by decide +kernel⟩
theorem FnP.mk' {k : Nat} {x : Str} {st : Stmt} {N ps : List Str} {sp : Sp} {fd : FuncData} (F : FnP K x st (He.ga K x) fd) (S : FnScope N ps (defScope st)) (len : ∀ vs H Q E, sp vs H Q E → vs.length = ps.length)
    (hbody : ∀ (cdv : Value) (A : Around) (outer : List Env) (s : Shared) (H : Hp) (vs : List V) (Q : VK) (E : XK), Room k (A.deeper (envOfC x (defScope st) s.heap.objs.size (He.ga K x) cdv)) → sp vs H Q E →
      ∃ t, PSs (cxOf CX0 P w K mg base N x (defScope st) (He.ga K x) cdv A outer s H E).nox (defBody st) t ∧ t { nx := fun _ H' => Q .non H', rt := Q } (start N vs) H) : FnOk P w K mg base CX0 (k + 1) (He.ga K x) fd ps sp :=
  F.ok S len fun cdv A outer s H vs Q E hr h => by
    obtain ⟨t, h1, h2⟩ := hbody cdv A outer s H vs Q E hr h
    exact ⟨t, h1.nox, h2⟩
theorem fn_law (T : TX K mg) {fd : FuncData} (F : FnP K "law" s_law (He.ga K "law") fd) : FnOk P w K mg base CX0 9 (He.ga K "law") fd ["_law_script"] (spLaw K) := by
  refine FnP.mk' F sc_law (fun vs H Q E h => ?_) (fun cdv A outer s H vs Q E hr h => ?_)
  · obtain ⟨a, ns, rfl, _⟩ := h
    rfl
  · obtain ⟨a, ns, rfl, hS, hn, q⟩ := h
    refine ⟨_, (pss_cons (ps_for PassesOwn.never rfl (pi_range1 (by rfl) T.n_range (pa_cons (pe_callB (call_max2 rfl) (by rfl) T.n_max (by decide +kernel) (pa_cons pe_int (pa_cons (pe_callB (call_min2 rfl) (by rfl) T.n_min (by decide +kernel) (pa_cons pe_int (pa_cons (pe_callB call_len_seq (by rfl) T.n_len PySem.boot_len (pa_cons (pv 0) pa_nil)) pa_nil))) pa_nil))) pa_nil)) (pg_name (i := 1) sc_law.nd rfl (.inl rfl))
        (pss_cons (ps_set (i := 2) sc_law.nd rfl (Or.inl rfl) (pe_ok (ok_Lbox T) hr (by decide) (by rfl) (pa_cons (pv 0) (pa_cons (pv 1) pa_nil)) pass0))
        (pss_cons (ps_set (i := 3) sc_law.nd rfl (Or.inl rfl) (pe_ok (ok_Ltower T) hr (by decide) (by rfl) (pa_cons (pv 2) pa_nil) pass0))
        (pss_one (ps_for PassesOwn.never rfl (pi_tup (pv 3)) (pg_name (i := 4) sc_law.nd rfl (.inl rfl))
          (pss_cons (ps_set (i := 5) sc_law.nd rfl (Or.inl rfl) (pe_tup (pa_cons (pe_ok (ok_Ltongue T) hr (by decide) (by rfl) (pa_cons (pv 3) (pa_cons (pe_ix ix_tup (pv 4) pe_int (fun _ _ => rfl)) pa_nil)) pass0) (pa_cons (pe_ok (ok_Lheads T) hr (by decide) (by rfl) (pa_cons (pv 3) (pa_cons (pe_ix ix_tup (pv 4) pe_int (fun _ _ => rfl)) pa_nil)) pass0) pa_nil))))
          (pss_one (ps_for PassesOwn.never rfl (pi_tup (pe_ifExp (pt_cmpR op_eq (pe_ix ix_tup (pv 4) pe_int (fun _ _ => rfl)) pe_str (nomark _)) (pe_ix ix_tup (pv 4) pe_int (fun _ _ => rfl)) (pe_tup pa_nil))) (pg_tup rfl (pgs_cons (pg_name (i := 6) sc_law.nd rfl (.inl rfl)) (pgs_cons (pg_name (i := 7) sc_law.nd rfl (.inl rfl)) (pgs_cons (pg_name (i := 8) sc_law.nd rfl (.inl rfl)) (pgs_cons (pg_name (i := 9) sc_law.nd rfl (.inl rfl)) pgs_nil)))))
            (pss_one (ps_for PassesOwn.never rfl (pi_enum (by rfl) T.n_enumerate (pa_cons (pe_ok (ok_Lsights T) hr (by decide) (by rfl) (pa_cons (pv 5) (pa_cons (pv 9) (pa_cons (pv 7) (pa_cons (pv 8) pa_nil)))) pass0) pa_nil)) (pg_tup rfl (pgs_cons (pg_name (i := 10) sc_law.nd rfl (.inl rfl)) (pgs_cons (pg_name (i := 11) sc_law.nd rfl (.inl rfl)) pgs_nil)))
              (pss_one (ps_if (pt_not (pt_val (pe_ok (ok_Lplace_right T) hr (by decide) (by rfl) (pa_cons (pv 2) (pa_cons (pv 3) (pa_cons (pv 5) (pa_cons (pe_tup (pa_cons (pe_tup (pa_cons (pv 9) (pa_cons (pv 7) (pa_cons (pv 8) pa_nil)))) (pa_cons (pv 11) pa_nil))) (pa_cons (pv 10) pa_nil))))) pass0)))
                (pss_one (ps_ret pe_bl))
                pss_nil))))))))))))
      (pss_one (ps_ret pe_bl))), ?_⟩
    refine ⟨_, rfl, a, _, rfl, .inl hS, _, _, rfl, _, _, rfl, _, rfl, ?_, ?_, ?_⟩
    · split <;> (try split) <;> omega
    · split <;> (try split) <;> omega
    refine for_it walk_range (fun i σ H' => ∃ y1 y2 y3 y4 y5 y6 y7 y8 y9 y10 y11, σ = [some (.ref a), y1, y2, y3, y4, y5, y6, y7, y8, y9, y10, y11] ∧ Same H H') ⟨_, _, _, _, _, _, _, _, _, _, _, rfl, Same.refl H⟩ (fun _ _ _ _ _ => trivial) (fun i x σ Ha Hb hi hP hY => ?_) (fun σ Hc hP => ?_)
    · obtain ⟨y1, y2, y3, y4, y5, y6, y7, y8, y9, y10, y11, rfl, sa⟩ := hP
      obtain ⟨rfl, rfl⟩ := hY
      refine ⟨_, rfl, _, rfl, a, ns, i, by show [V.ref a, V.int (0 + (i : Int))] = _; rw [Int.zero_add], sa.seq hS, by omega, fun b H2 s2 nb bx2 => ?_⟩
      refine ⟨_, rfl, b, rfl, bx2, fun tv H3 tw hB3 bx3 dtw htw => ?_⟩
      have nbH : H b = none := Same.free sa nb
      obtain ⟨at_, xs, rfl, hTt, hts⟩ := dtw.inv
      have hxl : xs.length = tw.length := by rw [hts.len, List.length_map]
      have hhl : ∀ own, (headsOf tw own).length ≤ 1000 := fun own => by
        have h1 := heads_len (own := own) fun p hp => (htw.part p hp).len
        have h2 := htw.len
        omega
      have htw20 := htw.len
      refine ⟨_, rfl, at_, rfl, ⟨_, hTt.sq⟩, ?_⟩
      refine for_it (walk_tup (K := K) (a := at_) (xs := xs)) (fun j σ H' => ∃ y1 y4 y5 y6 y7 y8 y9 y10 y11, σ = [some (.ref a), y1, some (.ref b), some (.ref at_), y4, y5, y6, y7, y8, y9, y10, y11] ∧ But b H3 H' ∧ Bx H' b) ⟨_, _, _, _, _, _, _, _, _, rfl, But.refl _ _, bx3⟩ (fun j σ H' _ hP => ?_) (fun j y σ Hz Hc hj hP hY => ?_) (fun σ Hc hP => ?_)
      · obtain ⟨_, _, _, _, _, _, _, _, _, _, hB, _⟩ := hP
        exact (hTt.mono (hB.tup bx3)).sq
      · obtain ⟨y1, y4, y5, y6, y7, y8, y9, y10, y11, rfl, hB, bxc⟩ := hP
        obtain ⟨rfl, hy⟩ := hY
        have kc := hB.tup bx3
        obtain ⟨dd, hdd, dx⟩ := (hts.mono kc).getV hy
        obtain ⟨it, hit, rfl⟩ := map_at hdd
        have hmem := List.mem_of_getElem? hit
        obtain ⟨b', ys, v3, rfl, hSi, f0, f1, f2, f3, d3⟩ := It.fields dx
        have seqc : SeqTd K Hc (.ref at_) (tw.map It.data) := ⟨at_, xs, rfl, .inr (hTt.mono kc), hts.mono kc⟩
        refine ⟨_, rfl, _, rfl, b', ys, _, _, rfl, rfl, hSi, at_of (j := 2) rfl f2, .ref at_, it.third, tw, rfl, seqc, by omega, fun rt Hd sd drt => ?_⟩
        have kd := kc.trans (tk sd)
        have seqd : SeqTd K Hd (.ref at_) (tw.map It.data) := ⟨at_, xs, rfl, .inr (hTt.mono kd), hts.mono kd⟩
        refine ⟨_, rfl, _, rfl, b', ys, _, _, rfl, rfl, sqT_same hSi sd, at_of (j := 2) rfl f2, .ref at_, it.third, tw, rfl, seqd, htw.fin, hhl _, fun pH He xh se nH eH tH => ⟨lz 2, fun ra hra => ?_⟩⟩
        generalize hE : upd He ra _ = Hf
        obtain ⟨sf, era⟩ := mk hE hra
        clear hE
        have scf := sd.trans (se.trans sf)
        have hBf := hB.trans (But.of scf)
        have bxf := bxc.same scf
        have kf := hBf.tup bx3
        have hSf := sqT_same hSi scf
        have d3f := d3.mono (tk scf)
        refine ⟨_, rfl, b', ys, _, _, rfl, rfl, hSf, at_of (j := 0) rfl f0, rfl, _, rfl, ?_⟩
        rw [decV]
        cases it with
        | tong t =>
          refine ifF (show decide (("tongue" : Str) = "part") = false by decide +kernel) ⟨lz 0, fun p hp => ?_⟩
          generalize hE : upd Hf p _ = Hg
          obtain ⟨sg, eg⟩ := mk hE hp
          refine ⟨p, rfl, ⟨[], .inl (.inl eg)⟩, for_it (walk_tup (K := K) (a := p) (xs := [])) (fun _ σ H' => (∃ y1 y4 y5 y6 y7 y8 y9 y10 y11, σ = [some (.ref a), y1, some (.ref b), some (.ref at_), y4, y5, y6, y7, y8, y9, y10, y11]) ∧ H' = Hg) ⟨⟨_, _, _, _, _, _, _, _, _, rfl⟩, rfl⟩ (fun _ σ H' _ hP => by rw [hP.2]; exact .inl (.inl eg)) (fun i _ _ _ _ hi => absurd hi (Nat.not_lt_zero _)) (fun σ H' hP => ?_)⟩
          obtain ⟨⟨y1, y4, y5, y6, y7, y8, y9, y10, y11, rfl⟩, rfl⟩ := hP
          exact ⟨_, _, _, _, _, _, _, _, _, rfl, hBf.trans (But.of sg), bxf.same sg⟩
        | part pt =>
          refine ifT (show decide (("part" : Str) = "part") = true by decide +kernel) ?_
          have hP := htw.part pt hmem
          have hown := hP.own
          have dvf : Td K Hf (.ref at_) (.tuple (tw.map It.data)) := .tup (hTt.mono kf) (hts.mono kf)
          have hRul : Rul K Hf (.ref ra) (tongueOf tw pt.own) (headsOf tw pt.own) := ⟨⟨ra, rt, pH, xh, rfl, .inl era, drt.mono (tk (se.trans sf)), sf _ _ eH, tH.mono (tk sf)⟩, (tongueOf_ok htw hown).1, heads_ok htw⟩
          obtain ⟨c, rs, rfl, hc, hrs⟩ := Td.inv d3f
          refine ⟨_, rfl, b', ys, _, _, rfl, rfl, hSf, at_of (j := 3) rfl f3, c, rfl, ⟨_, hc.sq⟩, ?_⟩
          refine for_it (walk_tup (K := K) (a := c) (xs := rs)) (fun l σ H' => ∃ y1 y4 y6 y7 y8 y9 y10 y11, σ = [some (.ref a), y1, some (.ref b), some (.ref at_), y4, some (.ref ra), y6, y7, y8, y9, y10, y11] ∧ But b Hf H' ∧ Bx H' b) ⟨_, _, _, _, _, _, _, _, rfl, But.refl _ _, bxf⟩ (fun l σ H' _ hQ => ?_) (fun l z σ Hy Hg hl hQ hY => ?_) (fun σ Hg hQ => ?_)
          · obtain ⟨_, _, _, _, _, _, _, _, _, hB2, _⟩ := hQ
            exact (hc.mono (hB2.tup bxf)).sq
          · obtain ⟨y1, y4, y6, y7, y8, y9, y10, y11, rfl, hB2, bxg⟩ := hQ
            obtain ⟨rfl, hz⟩ := hY
            have kg := hB2.tup bxf
            obtain ⟨dd, hdd, dz⟩ := (hrs.mono kg).getV hz
            obtain ⟨r, hrr, rfl⟩ := map_at hdd
            have hR := hP.rows r (List.mem_of_getElem? hrr)
            obtain ⟨ro, u1, pv', u3, bv, rfl, hro, g1, g2, g3, g4⟩ := Td.i4 dz
            obtain rfl := g1.strI
            obtain rfl := g3.strI
            have hRg := hRul.but bxf hB2
            refine ⟨ro, _, rfl, hro.sq, rfl, _, _, rfl, _, _, rfl, _, _, rfl, _, _, rfl, rfl, ?_⟩
            have hsz := hR.sz
            have hdp := hR.dp
            have hpl := hR.pl
            refine ⟨_, rfl, _, rfl, _, rfl, _, rfl, .ref ra, bv, pv', tongueOf tw pt.own, headsOf tw pt.own, r.body, r.params, r.kind, rfl, hRg, g4, g2, hR.good, by omega, by omega, fun pS HS ws sS nS eS tS => ⟨pS, ws, rfl, .inl (.inl eS), ?_⟩⟩
            have npb : pS ≠ b := bxg.ne nS
            have bxS := bxg.same sS
            have hBS := hB2.trans (But.of sS)
            have kS := hBS.tup bxf
            have hRS := hRg.same sS
            have dvS := dvf.mono kS
            have g2S := g2.mono (tk sS)
            have g4S := g4.mono (tk sS)
            refine for_it (walk_enum (K := K) (a := pS) (xs := ws)) (fun m σ H' => ∃ y1 y4 y6 y10 y11, σ = [some (.ref a), y1, some (.ref b), some (.ref at_), y4, some (.ref ra), y6, some pv', some (.str r.kind), some bv, y10, y11] ∧ But b HS H' ∧ Bx H' b) ⟨_, _, _, _, _, rfl, But.refl _ _, bxS⟩ (fun m σ H' _ hQ => ?_) (fun m z σ Hi Hj hm hQ hY => ?_) (fun σ Hi hQ => ?_)
            · obtain ⟨_, _, _, _, _, _, hB3', _⟩ := hQ
              exact .inl (.inl (hB3' _ _ npb eS))
            · obtain ⟨y1, y4, y6, y10, y11, rfl, hB4, bxi⟩ := hQ
              obtain ⟨Tp, x1, x2, rfl, nT, eq, h1, h2⟩ := hY
              subst eq
              cases h1
              obtain ⟨x, hx, hEx⟩ := LiI.paired_get tS h2
              have ki := hB4.tup bxS
              have hEi := hEx.but bxS hB4
              generalize hE : upd Hi Tp _ = Hk
              obtain ⟨sk, ek⟩ := mk hE nT
              clear hE
              refine ⟨Tp, _, rfl, .inl (.inl ek), rfl, _, _, rfl, _, _, rfl, rfl, ?_⟩
              refine ⟨_, rfl, _, rfl, _, rfl, _, rfl, _, rfl, _, rfl, lz 3, fun ta hta => ?_⟩
              generalize hE : upd Hk ta _ = Hl
              obtain ⟨sl, eta⟩ := mk hE hta
              clear hE
              refine ⟨_, rfl, lz 2, fun oa hoa => ?_⟩
              generalize hE : upd Hl oa _ = Hm
              obtain ⟨sm, eoa⟩ := mk hE hoa
              clear hE
              have sim := sk.trans (sl.trans sm)
              have km := ki.trans (tk sim)
              have hEm := hEi.same sim
              obtain ⟨ea, xv, xd, xk, rfl, j1, j2, j3, j4, j5⟩ := hEm
              refine ⟨_, rfl, b, .ref at_, .ref ra, oa, ta, ea, bv, pv', tw, pt.own, r.params, r.body, r.kind, x, m, rfl, bxi.same sim, dvS.mono km, htw, hown, (hRS.but bxS hB4).same sim, eoa, sm _ _ eta, g4S.mono km, g2S.mono km, ⟨ea, xv, xd, xk, rfl, j1, j2, j3, j4, j5⟩, hR.good, hx, hsz, hdp, hpl, fun Hn hBn bxn => ?_⟩
              exact ⟨_, rfl, ifF rfl ⟨_, _, _, _, _, rfl, (hB4.trans (But.of sim)).trans hBn, bxn⟩⟩
            · obtain ⟨y1, y4, y6, y10, y11, rfl, hB4, bxi⟩ := hQ
              exact ⟨_, _, _, _, _, _, _, _, rfl, hBS.trans hB4, bxi⟩
          · obtain ⟨y1, y4, y6, y7, y8, y9, y10, y11, rfl, hB2, bxg⟩ := hQ
            exact ⟨_, _, _, _, _, _, _, _, _, rfl, hBf.trans hB2, bxg⟩
      · obtain ⟨y1, y4, y5, y6, y7, y8, y9, y10, y11, rfl, hB, bxc⟩ := hP
        refine ⟨_, _, _, _, _, _, _, _, _, _, _, rfl, fun o u e => ?_⟩
        exact ((But.of (sa.trans s2)).trans (hB3.trans hB)) o u (ne_of_none e nbH) e
    · obtain ⟨y1, y2, y3, y4, y5, y6, y7, y8, y9, y10, y11, rfl, sa⟩ := hP
      exact q Hc
end K27

set_option maxHeartbeats 0
namespace K27
open PySem PySem.Spec PyProof.Rows L2
theorem facts {P : Program} {w : World} {K : PySem.W.Frag} {h : Heap} {mg : Str → Option Value} {f : Addr} (X : K.In h) (G : h.Ns mainGlobals mg) (hfa : mg ("law" : Str) = some (.ref f)) (c : SaysK K) :
    ∃ fd : FuncData, (∀ (s : Shared) (v : Value), BindsTo s fd ⟨[v], []⟩ [("_law_script", v)]) ∧ ∀ base : Heap, K.In base → base.Ns mainGlobals mg → FnOk P w K mg base CX0 9 f fd ["_law_script"] (spLaw K) := by
  have T : TX K mg := ⟨⟨h, X, G⟩, c⟩
  obtain ⟨fd, F⟩ := T.f_law
  have e := hfa.symm.trans T.m_law
  cases e
  have b := FunD.bindsA (ps := ["_law_script"]) F fun _ _ _ _ _ _ us hl => match us, hl with | [_], _ => rfl
  exact ⟨fd, fun s v => b s [v] rfl, fun base _ _ => fn_law T F⟩
end K27
open PySem PySem.W PySem.Calls PyProof.Rows
theorem PySem.Challenge.cw_tonguetower_k27_whole_kinds_of_all_parts_holds : PySem.Challenge.rw_tonguetower_k27_whole_kinds_of_all_parts.Holds := by
  w_on; o_law
  refine HandSHeadRun.head_any (r := OpenLaw.row PySem.Challenge.rw_tonguetower_k27_whole_kinds_of_all_parts) (q := view (OpenLaw.row PySem.Challenge.rw_tonguetower_k27_whole_kinds_of_all_parts).prog [39]) (H := K27.hookK) (ob := K27.obT) (M := 6000) (loose := K27.loose) (d := HandSHeadRun.topDef (OpenLaw.row PySem.Challenge.rw_tonguetower_k27_whole_kinds_of_all_parts).prog 39) (kwd := []) K27.obT_eq
    (by kernel_rfl) (fun s => by kernel_rfl) K27.run (by kernel_rfl) (by kernel_rfl) (by kernel_rfl) (by rfl) (by first | assumption | decide +kernel) (by decide +kernel) ⟨rfl, rfl, rfl, rfl, rfl, by decide +kernel⟩ ?hw ?hc
  case hw => w_witness2
  case hc =>
    refine L2.walk_ofE (l := PySem.Challenge.rw_tonguetower_k27_whole_kinds_of_all_parts) (n := 63) (k := 9) (x := "_law_script") (CX := L2.CX0) rfl (by decide) (by kernel_rfl) ⟨rfl, by decide, by decide⟩ ?F (fun _ _ _ _ z => z)
    intro w mg fa h Y G hmg0
    obtain ⟨K, KX, c⟩ := Y
    have hmg : mg ("law" : PySem.Str) = some (.ref fa) := by
      have e : (HandSHeadRun.topDef (OpenLaw.row PySem.Challenge.rw_tonguetower_k27_whole_kinds_of_all_parts).prog 39).name = ("law" : PySem.Str) := by kernel_rfl
      rw [← e]
      exact hmg0
    obtain ⟨fd, hb, hF⟩ := K27.facts (P := (PySem.Challenge.rw_tonguetower_k27_whole_kinds_of_all_parts).prog) (w := w) KX G hmg c
    exact ⟨K, fd, K27.spLaw K, KX, hb, fun H a ns hl _ hS => ⟨a, ns, rfl, hS, hl, fun _ => rfl⟩, hF⟩
