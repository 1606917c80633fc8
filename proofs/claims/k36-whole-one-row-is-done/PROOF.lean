import PyProof.Rows.All
import Wide.All
import OpenK.AllK
import Wide.FinOn
import HandS.ForMost
import HandS.More
import HandS.Deep
import HandS.Evl
import HandS.Steps
import HandS.TupLe
import HandS.WordsExc
import HandS.Defaults
import HandS.HeadEnd
import HandS.HeadHook4
import HandS.Head2
import HandS.IsInst
import HandS.Walk
import HandS.Text
import KE.SortData
import KE.DataCmp
import KE.DataMinMax
import HandS.SortKw
import HandS.DictSubView
import HandS.Conv
import HandS.TupAny
import HandS.NoneIn
import HandS.MakeKwOnly
import HandS.CallLocal
import HandS.WordsDict
import HandS.Strs
import PyProof.ReprNest
import PyProof.StrHeap
import HandS.FStrTup
import PyProof.FitsInt
import PySem.Challenge.RW_watchednodes_k36_whole_one_row_is_done
/-! The mirror: what the program's House does, as plain Lean functions; the list laws under it. -/
set_option linter.all false
namespace Zab
abbrev Place := Nat × Nat
abbrev Ent := Bool × Nat
abbrev Thing := Place × Ent
abbrev Row := List Thing
def Plt (a b : Place) : Prop := a.1 < b.1 ∨ (a.1 = b.1 ∧ a.2 < b.2)
def Ple (a b : Place) : Prop := a.1 < b.1 ∨ (a.1 = b.1 ∧ a.2 ≤ b.2)
instance (a b : Place) : Decidable (Plt a b) := inferInstanceAs (Decidable (_ ∨ _))
instance (a b : Place) : Decidable (Ple a b) := inferInstanceAs (Decidable (_ ∨ _))
def places (r : Row) : List Place := r.map (·.1)
def last (r : Row) : Place := match r.getLast? with
  | some t => t.1
  | none => (0, 0)
def upTo (r : Row) (p : Place) : Row := r.filter fun t => decide (Ple t.1 p)
def behind (r : Row) (p : Place) : Row := r.filter fun t => decide (Plt p t.1)
def hasP (r : Row) (p : Place) : Bool := decide (p = (0, 0)) || (places r).any (fun q => decide (q = p))
/-- a dict from names to places, in the order of insertion -/
abbrev Dic := List (Nat × Place)
def dget (d : Dic) (k : Nat) : Option Place := (d.find? fun x => decide (x.1 = k)).map (·.2)
def dput (d : Dic) (k : Nat) (v : Place) : Dic := if d.any (fun x => decide (x.1 = k)) then d.map (fun x => if x.1 = k then (k, v) else x) else d ++ [(k, v)]
def ddel (d : Dic) (k : Nat) : Dic := d.filter fun x => decide (x.1 ≠ k)
def dhas (d : Dic) (k : Nat) : Bool := (dget d k).isSome
inductive Role | seeks | follows | leads
  deriving DecidableEq
structure House where
  nm : Nat
  mem : List Nat
  promised : Nat
  epoch : Nat
  row : Row
  done : Place
  role : Role
  head : Option Nat
  sought : Option Nat
  promises : Dic
  taken : Dic
  clock : Nat
  fresh : Nat
inductive Body
  | seek (ep : Nat) (last : Place)
  | promise (last : Place)
  | lead
  | sync (way : Nat) (base : Place) (things : Row) (dn : Place)
  | lack
  | synced (p : Place)
  | propose (prior place : Place) (ent : Ent)
  | took (p : Place)
  | done (p : Place)
structure Letter where
  src : Nat
  dst : Nat
  e : Nat
  body : Body
def pmax (a b : Place) : Place := if Plt a b then b else a
def pmin (a b : Place) : Place := if Plt b a then b else a
def most (n : Nat) : Nat := n / 2 + 1
namespace House
variable (h : House)
def others : List Nat := h.mem.filter fun o => decide (o ≠ h.nm)
def lst : Place := last h.row
def doneRow : Row := upTo h.row h.done
def goOnTo (p : Place) : House := { h with done := pmax h.done p, fresh := h.fresh + (h.row.filter fun t => decide (Plt h.done t.1) && decide (Ple t.1 p)).length }
def standDown : House := { h with role := .seeks, head := none, sought := none, promises := [], taken := [], clock := 0 }
def beginAnew : House := standDown { h with done := (0, 0), fresh := 0 }
def settled : Bool := decide (h.role = .leads) && decide (most h.mem.length ≤ h.taken.length)
/-- the k-th of the greatest (k from 0) -/
def mark (d : Dic) (k : Nat) : Place := ((d.map (·.2)).mergeSort (fun a b => decide (Ple b a))).getD k (0, 0)
def doneNew : List Place := (places h.row).filter fun p => decide (Plt h.done p) && decide (Ple p (mark h.taken (most h.mem.length - 1)))
def lookDone : House × List Letter :=
  if h.settled then
    match h.doneNew.getLast? with
    | none => (h, [])
    | some p => (h.goOnTo p, (h.others.filter fun o => dhas h.taken o).map fun o => ⟨h.nm, o, h.epoch, .done p⟩)
  else (h, [])
def syncBy (o way : Nat) (base : Place) : Letter := ⟨h.nm, o, h.epoch, .sync way base (behind h.row base) h.done⟩
def syncFor (o : Nat) : Letter :=
  let l := (dget h.promises o).getD (0, 0)
  if hasP h.row l then h.syncBy o 0 l else
    match ((places h.row).filter fun p => decide (Plt p l)).getLast? with
    | some b => h.syncBy o 1 b
    | none => h.syncBy o 2 (0, 0)
def lead : House × List Letter :=
  let h1 : House := { h with role := .leads, head := some h.nm, epoch := h.promised, taken := [(h.nm, h.lst)] }
  let ls := (h1.others.filter fun o => dhas h1.promises o).map h1.syncFor
  let (h2, ms) := h1.lookDone
  (h2, ls ++ ms)
def seek : House × List Letter :=
  let h1 := h.standDown
  let h2 : House := { h1 with promised := h.promised + 1, sought := some (h.promised + 1), promises := [(h.nm, h.lst)] }
  if most h.mem.length = 1 then h2.lead else (h2, h2.others.map fun o => ⟨h.nm, o, h.promised + 1, .seek h.epoch h.lst⟩)
def put (en : Ent) : House × List Letter :=
  let prior := h.lst
  let place : Place := (h.epoch, if prior.1 = h.epoch then prior.2 + 1 else 1)
  let h1 : House := { h with row := h.row ++ [(place, en)], taken := dput h.taken h.nm place }
  let ls := (h1.others.filter fun o => dhas h1.taken o).map fun o => ⟨h.nm, o, h.epoch, .propose prior place en⟩
  let (h2, ms) := h1.lookDone
  (h2, ls ++ ms)
def chain (o : Nat) : Place → Row → List Letter
  | _, [] => []
  | prior, t :: r => ⟨h.nm, o, h.epoch, .propose prior t.1 t.2⟩ :: chain o t.1 r
def beatFor (o : Nat) : List Letter :=
  if !dhas h.promises o then [⟨h.nm, o, h.epoch, .lead⟩] else
    match dget h.taken o with
    | none => [h.syncFor o]
    | some p => h.chain o p (behind h.row p) ++ [⟨h.nm, o, h.epoch, .done h.done⟩]
def beat : House × List Letter :=
  if h.role = .leads then
    let h1 : House := { h with clock := h.clock + 1 }
    (h1, h1.others.flatMap h1.beatFor)
  else (h, [])
def follow (o : Nat) : House :=
  let h1 := if h.head = some o then h else h.standDown
  { h1 with role := .follows, head := some o }
def leadsBy (e : Nat) : Bool := decide (h.role = .leads) && decide (e = h.epoch)
def standsBy (e : Nat) : Bool := decide (e = h.promised) && (decide (e = h.epoch) && !decide (h.role = .leads))
def onSeek (o e ep : Nat) (l : Place) : House × List Letter :=
  if e ≤ h.promised then (h, []) else
    let h1 : House := { h.standDown with promised := e }
    if h.epoch < ep ∨ (h.epoch = ep ∧ Ple h.lst l) then (h1, [⟨h.nm, o, e, .promise h.lst⟩]) else (h1, [])
def onPromise (o e : Nat) (l : Place) : House × List Letter :=
  if h.leadsBy e then
    let h1 : House := { h with promises := dput h.promises o l, taken := ddel h.taken o }
    (h1, [h1.syncFor o])
  else if e ≠ h.promised ∨ h.sought ≠ some e then (h, []) else
    let h1 : House := { h with promises := dput h.promises o l }
    if most h.mem.length ≤ h1.promises.length then h1.lead else (h1, [])
def onLead (o e : Nat) : House × List Letter :=
  if e < h.promised ∨ (e = h.promised ∧ h.role ≠ .seeks) then (h, []) else
    ({ h.standDown with promised := e }, [⟨h.nm, o, e, .promise h.lst⟩])
def onSync (o e : Nat) (base : Place) (things : Row) (dn : Place) : House × List Letter :=
  if e = h.promised ∧ h.epoch < e then
    if hasP h.row base then
      let h1 : House := { h with row := upTo h.row base ++ things, epoch := e }
      let h2 := h1.follow o
      let h3 := h2.goOnTo (pmin dn h2.lst)
      (h3, [⟨h.nm, o, e, .synced h3.lst⟩])
    else (h, [⟨h.nm, o, e, .lack⟩])
  else if h.standsBy e then
    let h1 := h.follow o
    (h1, [⟨h.nm, o, e, .synced h1.lst⟩])
  else (h, [])
def onPropose (o e : Nat) (prior place : Place) (en : Ent) : House × List Letter :=
  if h.standsBy e then
    let h1 := h.follow o
    let h2 : House := if h1.lst = prior then { h1 with row := h1.row ++ [(place, en)] } else h1
    (h2, if hasP h2.row place then [⟨h.nm, o, e, .took h2.lst⟩] else [])
  else (h, [])
def onDone (o e : Nat) (p : Place) : House × List Letter :=
  if h.standsBy e then
    let h1 := h.follow o
    (h1.goOnTo (pmin p h1.lst), [])
  else (h, [])
def onTook (o : Nat) (p : Place) : House × List Letter :=
  lookDone { h with taken := dput h.taken o (pmax ((dget h.taken o).getD (0, 0)) p) }
def take (l : Letter) : House × List Letter :=
  match l.body with
  | .seek ep la => h.onSeek l.src l.e ep la
  | .promise la => h.onPromise l.src l.e la
  | .lead => h.onLead l.src l.e
  | .sync _ base things dn => h.onSync l.src l.e base things dn
  | .propose prior place en => h.onPropose l.src l.e prior place en
  | .done p => h.onDone l.src l.e p
  | .lack => if h.leadsBy l.e then (h, [h.syncBy l.src 2 (0, 0)]) else (h, [])
  | .synced p => if h.leadsBy l.e then h.onTook l.src p else (h, [])
  | .took p => if h.leadsBy l.e && dhas h.taken l.src then h.onTook l.src p else (h, [])
end House
def first (nm : Nat) (mem : List Nat) : House := ⟨nm, mem, 0, 0, [], (0, 0), .seeks, none, none, [], [], 0, 0⟩

/-! ### places -/
theorem Ple.refl (a : Place) : Ple a a := by unfold Ple; omega
theorem Ple.trans {a b c : Place} (h : Ple a b) (k : Ple b c) : Ple a c := by unfold Ple at *; omega
theorem Plt.trans {a b c : Place} (h : Plt a b) (k : Plt b c) : Plt a c := by unfold Plt at *; omega
theorem Plt.le {a b : Place} (h : Plt a b) : Ple a b := by unfold Plt Ple at *; omega
theorem plt_of_ple_plt {a b c : Place} (h : Ple a b) (k : Plt b c) : Plt a c := by unfold Plt Ple at *; omega
theorem plt_of_plt_ple {a b c : Place} (h : Plt a b) (k : Ple b c) : Plt a c := by unfold Plt Ple at *; omega
theorem not_ple {a b : Place} : ¬ Ple a b ↔ Plt b a := by unfold Plt Ple; omega
theorem not_plt {a b : Place} : ¬ Plt a b ↔ Ple b a := by unfold Plt Ple; omega
theorem plt_irrefl (a : Place) : ¬ Plt a a := by unfold Plt; omega
theorem ple_antisymm {a b : Place} (h : Ple a b) (k : Ple b a) : a = b := by
  obtain ⟨a1, a2⟩ := a; obtain ⟨b1, b2⟩ := b
  unfold Ple at *
  simp only at h k
  simp only [Prod.mk.injEq]
  omega
theorem ple_total (a b : Place) : Ple a b ∨ Ple b a := by unfold Ple; omega
theorem ple_zero (a : Place) : Ple (0, 0) a := by unfold Ple; simp only; omega

/-! ### rows -/
def Sorted (r : Row) : Prop := r.Pairwise fun a b => Plt a.1 b.1
theorem Sorted.pre {a r : Row} (h : Sorted r) (p : a <+: r) : Sorted a := List.Pairwise.sublist p.sublist h
theorem upTo_append (a b : Row) (p : Place) : upTo (a ++ b) p = upTo a p ++ upTo b p := List.filter_append ..
theorem behind_append (a b : Row) (p : Place) : behind (a ++ b) p = behind a p ++ behind b p := List.filter_append ..
theorem upTo_all {r : Row} {p : Place} (h : ∀ t ∈ r, Ple t.1 p) : upTo r p = r := List.filter_eq_self.mpr fun t ht => decide_eq_true (h t ht)
theorem upTo_none {r : Row} {p : Place} (h : ∀ t ∈ r, Plt p t.1) : upTo r p = [] := List.filter_eq_nil_iff.mpr fun t ht => by
  simp only [decide_eq_true_eq]
  exact not_ple.mpr (h t ht)
theorem behind_all {r : Row} {p : Place} (h : ∀ t ∈ r, Plt p t.1) : behind r p = r := List.filter_eq_self.mpr fun t ht => decide_eq_true (h t ht)
theorem behind_none {r : Row} {p : Place} (h : ∀ t ∈ r, Ple t.1 p) : behind r p = [] := List.filter_eq_nil_iff.mpr fun t ht => by
  simp only [decide_eq_true_eq]
  exact not_plt.mpr (h t ht)
theorem mem_upTo {r : Row} {p : Place} {t : Thing} : t ∈ upTo r p ↔ t ∈ r ∧ Ple t.1 p := by
  unfold upTo
  rw [List.mem_filter, decide_eq_true_eq]
theorem mem_behind {r : Row} {p : Place} {t : Thing} : t ∈ behind r p ↔ t ∈ r ∧ Plt p t.1 := by
  unfold behind
  rw [List.mem_filter, decide_eq_true_eq]
/-- a sorted row is cut in two by a place -/
theorem cut : ∀ {r : Row} (p : Place), Sorted r → upTo r p ++ behind r p = r
  | [], _, _ => rfl
  | t :: r, p, h => by
    obtain ⟨h1, h2⟩ := List.pairwise_cons.mp h
    by_cases c : Ple t.1 p
    · have e1 : upTo (t :: r) p = t :: upTo r p := List.filter_cons_of_pos (decide_eq_true c)
      have e2 : behind (t :: r) p = behind r p := List.filter_cons_of_neg (by simp only [decide_eq_true_eq]; exact not_plt.mpr c)
      rw [e1, e2, List.cons_append, cut p h2]
    · have hlt : Plt p t.1 := not_ple.mp c
      have e1 : upTo (t :: r) p = [] := upTo_none fun u hu => by
        rcases List.mem_cons.mp hu with rfl | hu
        · exact hlt
        · exact hlt.trans (h1 u hu)
      have e2 : behind (t :: r) p = t :: r := behind_all fun u hu => by
        rcases List.mem_cons.mp hu with rfl | hu
        · exact hlt
        · exact hlt.trans (h1 u hu)
      rw [e1, e2]
      rfl
theorem upTo_pre {r : Row} (p : Place) (h : Sorted r) : upTo r p <+: r := ⟨behind r p, cut p h⟩
theorem last_nil : last [] = (0, 0) := rfl
theorem last_snoc (a : Row) (t : Thing) : last (a ++ [t]) = t.1 := by
  unfold last
  rw [List.getLast?_append]
  rfl
theorem row_cases (r : Row) : r = [] ∨ ∃ a t, r = a ++ [t] := by
  cases e : r.getLast? with
  | none => exact .inl (List.getLast?_eq_none_iff.mp e)
  | some t =>
    obtain ⟨a, rfl⟩ := List.getLast?_eq_some_iff.mp e
    exact .inr ⟨a, t, rfl⟩
theorem le_last {r : Row} (h : Sorted r) {t : Thing} (ht : t ∈ r) : Ple t.1 (last r) := by
  rcases row_cases r with rfl | ⟨a, u, rfl⟩
  · cases ht
  · rw [last_snoc]
    rcases List.mem_append.mp ht with hm | hm
    · exact ((List.pairwise_append.mp h).2.2 t hm u (List.mem_singleton.mpr rfl)).le
    · rw [List.mem_singleton.mp hm]
      exact Ple.refl _
theorem last_mem {r : Row} (h : r ≠ []) : ∃ t ∈ r, t.1 = last r := by
  rcases row_cases r with rfl | ⟨a, u, rfl⟩
  · exact absurd rfl h
  · exact ⟨u, by simp, (last_snoc a u).symm⟩
theorem last_of_max {r : Row} (h : Sorted r) {p : Place} (hp : p ∈ places r) (hm : ∀ t ∈ r, Ple t.1 p) : last r = p := by
  obtain ⟨t, ht, rfl⟩ := List.mem_map.mp hp
  have hne : r ≠ [] := List.ne_nil_of_mem ht
  obtain ⟨u, hu, e⟩ := last_mem hne
  exact ple_antisymm (by rw [← e]; exact hm u hu) (le_last h ht)
theorem last_upTo {r : Row} (h : Sorted r) {p : Place} (hp : p ∈ places r) : last (upTo r p) = p := by
  refine last_of_max (h.pre (upTo_pre p h)) ?_ fun t ht => (mem_upTo.mp ht).2
  obtain ⟨t, ht, rfl⟩ := List.mem_map.mp hp
  exact List.mem_map.mpr ⟨t, mem_upTo.mpr ⟨ht, Ple.refl _⟩, rfl⟩
theorem mem_places_upTo {r : Row} {p q : Place} : q ∈ places (upTo r p) ↔ q ∈ places r ∧ Ple q p := by
  constructor
  · intro h
    obtain ⟨t, ht, rfl⟩ := List.mem_map.mp h
    obtain ⟨h1, h2⟩ := mem_upTo.mp ht
    exact ⟨List.mem_map.mpr ⟨t, h1, rfl⟩, h2⟩
  · rintro ⟨h, h2⟩
    obtain ⟨t, ht, rfl⟩ := List.mem_map.mp h
    exact List.mem_map.mpr ⟨t, mem_upTo.mpr ⟨ht, h2⟩, rfl⟩
theorem places_pre {a r : Row} (h : a <+: r) {p : Place} (hp : p ∈ places a) : p ∈ places r := by
  obtain ⟨t, ht, rfl⟩ := List.mem_map.mp hp
  exact List.mem_map.mpr ⟨t, h.subset ht, rfl⟩
/-- behind a beginning that reaches p nothing is up to p -/
theorem tail_gt {a b : Row} (h : Sorted (a ++ b)) {p : Place} (hp : Ple p (last a)) (ha : a ≠ []) : ∀ t ∈ b, Plt p t.1 := fun t ht => by
  obtain ⟨u, hu, e⟩ := last_mem ha
  have := (List.pairwise_append.mp h).2.2 u hu t ht
  rw [e] at this
  exact plt_of_ple_plt hp this
theorem upTo_of_pre {a r : Row} (h : Sorted r) (pre : a <+: r) {p : Place} (hp : p ∈ places a) : upTo r p = upTo a p := by
  obtain ⟨b, rfl⟩ := pre
  obtain ⟨t, ht, rfl⟩ := List.mem_map.mp hp
  rw [upTo_append, upTo_none (r := b) (tail_gt h (le_last (h.pre (List.prefix_append _ _)) ht) (List.ne_nil_of_mem ht)), List.append_nil]
/-- a beginning whose last place isn't less than one of the row has that place -/
theorem pre_has {a r : Row} (h : Sorted r) (pre : a <+: r) {p : Place} (hp : p ∈ places r) (hl : Ple p (last a)) (hz : 1 ≤ p.1) : p ∈ places a := by
  obtain ⟨b, rfl⟩ := pre
  have ha : a ≠ [] := by
    rintro rfl
    rw [last_nil] at hl
    unfold Ple at hl
    simp only at hl
    omega
  obtain ⟨t, ht, rfl⟩ := List.mem_map.mp hp
  rcases List.mem_append.mp ht with hm | hm
  · exact List.mem_map.mpr ⟨t, hm, rfl⟩
  · exact absurd (tail_gt h hl ha t hm) (plt_irrefl _)
/-- a beginning that ends at p is what stands up to p -/
theorem upTo_pre_eq {a r : Row} (h : Sorted r) (pre : a <+: r) {p : Place} (hp : p ∈ places a) (hm : ∀ t ∈ a, Ple t.1 p) : upTo r p = a := by
  rw [upTo_of_pre h pre hp, upTo_all hm]
theorem upTo_upTo {r : Row} {p q : Place} (h : Ple q p) : upTo (upTo r p) q = upTo r q := by
  unfold upTo
  rw [List.filter_filter]
  congr 1
  funext t
  by_cases c : Ple t.1 q
  · simp [c, c.trans h]
  · simp [c]
theorem pre_total {a b r : Row} (h : a <+: r) (k : b <+: r) : a <+: b ∨ b <+: a := List.prefix_or_prefix_of_prefix h k
theorem hasP_iff {r : Row} {p : Place} : hasP r p = true ↔ p = (0, 0) ∨ p ∈ places r := by
  unfold hasP
  rw [Bool.or_eq_true, decide_eq_true_eq, List.any_eq_true]
  constructor
  · rintro (h | ⟨q, hq, e⟩)
    · exact .inl h
    · rw [decide_eq_true_eq] at e
      exact .inr (e ▸ hq)
  · rintro (h | h)
    · exact .inl h
    · exact .inr ⟨p, h, decide_eq_true rfl⟩
/-! ### dicts -/
def keys (d : Dic) : List Nat := d.map (·.1)
theorem dget_mem {d : Dic} {k : Nat} {v : Place} (h : dget d k = some v) : (k, v) ∈ d := by
  unfold dget at h
  obtain ⟨x, hx, rfl⟩ := Option.map_eq_some_iff.mp h
  have h1 := List.find?_some hx
  simp only [decide_eq_true_eq] at h1
  have h2 := List.mem_of_find?_eq_some hx
  rw [← h1]
  exact h2
theorem dhas_iff {d : Dic} {k : Nat} : dhas d k = true ↔ k ∈ keys d := by
  unfold dhas dget keys
  rw [Option.isSome_map, List.find?_isSome, List.mem_map]
  simp
theorem keys_dput {d : Dic} {k : Nat} {v : Place} : keys (dput d k v) = if k ∈ keys d then keys d else keys d ++ [k] := by
  unfold dput
  have e : (d.any (fun x => decide (x.1 = k))) = decide (k ∈ keys d) := by
    rw [Bool.eq_iff_iff, List.any_eq_true, decide_eq_true_eq]
    unfold keys
    rw [List.mem_map]
    simp
  rw [e]
  by_cases c : k ∈ keys d
  · rw [decide_eq_true c, if_pos rfl, if_pos c]
    unfold keys
    rw [List.map_map]
    apply List.map_congr_left
    intro x _
    show (if x.1 = k then (k, v) else x).1 = x.1
    split
    · rename_i q; exact q.symm
    · rfl
  · rw [decide_eq_false c, if_neg Bool.false_ne_true, if_neg c]
    unfold keys
    rw [List.map_append]
    rfl
theorem nodup_dput {d : Dic} {k : Nat} {v : Place} (h : (keys d).Nodup) : (keys (dput d k v)).Nodup := by
  rw [keys_dput]
  split
  · exact h
  · rename_i c
    refine List.nodup_append.mpr ⟨h, by simp, fun a ha b hb e => ?_⟩
    rw [List.mem_singleton.mp hb] at e
    exact c (e ▸ ha)
theorem mem_dput {d : Dic} {k : Nat} {v : Place} {x : Nat × Place} (h : x ∈ dput d k v) : x = (k, v) ∨ (x ∈ d ∧ x.1 ≠ k) ∨ (x ∈ d ∧ k ∉ keys d) := by
  unfold dput at h
  split at h
  · obtain ⟨y, hy, e⟩ := List.mem_map.mp h
    split at e
    · exact .inl e.symm
    · rename_i c
      subst e
      exact .inr (.inl ⟨hy, c⟩)
  · rename_i c
    rcases List.mem_append.mp h with hm | hm
    · refine .inr (.inr ⟨hm, fun q => c ?_⟩)
      unfold keys at q
      obtain ⟨y, hy, e⟩ := List.mem_map.mp q
      exact List.any_eq_true.mpr ⟨y, hy, decide_eq_true e⟩
    · exact .inl (List.mem_singleton.mp hm)
theorem mem_dput' {d : Dic} {k : Nat} {v : Place} {x : Nat × Place} (h : x ∈ dput d k v) : x = (k, v) ∨ x ∈ d := by
  rcases mem_dput h with h | h | h
  · exact .inl h
  · exact .inr h.1
  · exact .inr h.1
theorem mem_ddel {d : Dic} {k : Nat} {x : Nat × Place} (h : x ∈ ddel d k) : x ∈ d := (List.mem_filter.mp h).1
theorem nodup_ddel {d : Dic} {k : Nat} (h : (keys d).Nodup) : (keys (ddel d k)).Nodup := List.Pairwise.sublist (List.Sublist.map _ List.filter_sublist) h
theorem sub_keys {d : Dic} {x : Nat × Place} (h : x ∈ d) : x.1 ∈ keys d := List.mem_map.mpr ⟨x, h, rfl⟩
end Zab

set_option linter.all false
/-! The protocol's safety: ghosts, the invariant, what each deed keeps. -/
namespace Zab
structure Ghost where
  hist : Nat → Row
  ini : Nat → Row
  ldr : Nat → Option Nat
  voted : Nat → Nat → Option Nat
  cinfo : Nat → Nat → Option (Nat × Row)
  fr : Nat → Nat → Option Place
  D : Nat
theorem length_le_of_sub : ∀ {l m : List Nat}, l.Nodup → (∀ x ∈ l, x ∈ m) → l.length ≤ m.length
  | [], _, _, _ => Nat.zero_le _
  | a :: l, m, h, s => by
    obtain ⟨h1, h2⟩ := List.nodup_cons.mp h
    have ha : a ∈ m := s a List.mem_cons_self
    have k := length_le_of_sub (l := l) (m := m.erase a) h2 fun x hx => (List.mem_erase_of_ne (fun e : x = a => h1 (e ▸ hx))).mpr (s x (List.mem_cons_of_mem _ hx))
    rw [List.length_erase_of_mem ha] at k
    have := List.length_pos_of_mem ha
    rw [List.length_cons]
    omega
def Quor (M S : List Nat) : Prop := S.Nodup ∧ (∀ x ∈ S, x ∈ M) ∧ most M.length ≤ S.length
theorem quor_meet {M S T : List Nat} (hs : Quor M S) (ht : Quor M T) : ∃ x, x ∈ S ∧ x ∈ T := by
  apply Classical.byContradiction
  intro c
  have hd : ∀ x ∈ S, ∀ y ∈ T, x ≠ y := fun x hx y hy e => c ⟨x, hx, e ▸ hy⟩
  have k := length_le_of_sub (l := S ++ T) (m := M) (List.nodup_append.mpr ⟨hs.1, ht.1, hd⟩) fun x hx => (List.mem_append.mp hx).elim (hs.2.1 x) (ht.2.1 x)
  have h1 := hs.2.2
  have h2 := ht.2.2
  rw [List.length_append] at k
  unfold most at h1 h2
  omega
structure GInv (M : List Nat) (G : Ghost) : Prop where
  sorted : ∀ e, Sorted (G.hist e)
  bnd : ∀ e, ∀ t ∈ G.hist e, 1 ≤ t.1.1 ∧ t.1.1 ≤ e
  ini_pre : ∀ e, G.ini e <+: G.hist e
  lm : ∀ e, ∀ t ∈ G.hist e, upTo (G.hist e) t.1 = upTo (G.hist t.1.1) t.1
  none_ : ∀ e, G.ldr e = none → G.hist e = [] ∧ G.ini e = []
  led : ∀ e b, G.ldr e = some b → b ∈ M ∧ (∃ ep, G.cinfo b e = some (ep, G.ini e)) ∧ ∃ S, Quor M S ∧ ∀ x ∈ S, G.voted x e = some b
  ci : ∀ b e ep R, G.cinfo b e = some (ep, R) → ep < e ∧ R <+: G.hist ep ∧ G.ini ep <+: R ∧ (ep = 0 ∨ G.ldr ep ≠ none)
  vote : ∀ x e b, G.voted x e = some b → ∃ ep R, G.cinfo b e = some (ep, R) ∧ ∀ e' q, e' < e → G.fr x e' = some q → e' < ep ∨ (e' = ep ∧ Ple q (last R))
  siz : ∀ e, (G.hist e).length ≤ G.D ∧ ∀ t ∈ G.hist e, t.1.2 ≤ G.D ∧ t.2.2 ≤ G.D ∧ 1 ≤ t.2.2
def Com (M : List Nat) (G : Ghost) (e : Nat) (p : Place) : Prop := p ∈ places (G.hist e) ∧ ∃ S, Quor M S ∧ ∀ x ∈ S, ∃ q, G.fr x e = some q ∧ Ple p q
section
variable {M : List Nat} {G G' : Ghost}
theorem GInv.pos (g : GInv M G) {e : Nat} {p : Place} (h : p ∈ places (G.hist e)) : 1 ≤ p.1 ∧ p.1 ≤ e := by
  obtain ⟨t, ht, rfl⟩ := List.mem_map.mp h
  exact g.bnd e t ht
/-- what was committed in an elder epoch stands in each later head's first row -/
theorem complete (g : GInv M G) : ∀ (n e : Nat), e ≤ n → ∀ b, G.ldr e = some b → ∀ e' p, e' < e → Com M G e' p → upTo (G.hist e') p <+: G.ini e := by
  intro n
  induction n with
  | zero => intro e he b hb e' p h; omega
  | succ n ih =>
    intro e he b hb e' p hlt hc
    obtain ⟨hbM, ⟨ep0, hci⟩, V, hV, hvote⟩ := g.led e b hb
    obtain ⟨hp, S, hS, hfr⟩ := hc
    obtain ⟨x, hxS, hxV⟩ := quor_meet hS hV
    obtain ⟨q, hq, hpq⟩ := hfr x hxS
    obtain ⟨ep, R, hci2, hv⟩ := g.vote x e b (hvote x hxV)
    rw [hci] at hci2
    obtain ⟨rfl, rfl⟩ : ep0 = ep ∧ G.ini e = R := by simpa using hci2
    obtain ⟨c1, c2, c3, c4⟩ := g.ci b e ep0 _ hci
    rcases hv e' q hlt hq with h | ⟨rfl, h⟩
    · have hl : ∃ b2, G.ldr ep0 = some b2 := by
        rcases c4 with z | z
        · omega
        · cases q2 : G.ldr ep0 with
          | none => exact absurd q2 z
          | some b2 => exact ⟨b2, rfl⟩
      obtain ⟨b2, hb2⟩ := hl
      exact (ih ep0 (by omega) b2 hb2 e' p h ⟨hp, S, hS, hfr⟩).trans c3
    · have hm := pre_has (g.sorted e') c2 hp (hpq.trans h) (g.pos hp).1
      rw [upTo_of_pre (g.sorted e') c2 hm]
      exact upTo_pre p ((g.sorted e').pre c2)
theorem GInv.complete (g : GInv M G) {e e' : Nat} {p : Place} (hl : G.ldr e ≠ none) (h : e' < e) (c : Com M G e' p) : upTo (G.hist e') p <+: G.ini e := by
  cases q : G.ldr e with
  | none => exact absurd q hl
  | some b => exact Zab.complete g e e (Nat.le_refl _) b q e' p h c
theorem GInv.zero (g : GInv M G) : G.ldr 0 = none := by
  cases q : G.ldr 0 with
  | none => rfl
  | some b =>
    obtain ⟨_, ⟨ep, h⟩, _⟩ := g.led 0 b q
    have := (g.ci b 0 ep _ h).1
    omega
/-! ### what a house's deed changes -/
structure Le (x : Nat) (G G' : Ghost) : Prop where
  hist : ∀ e, G.hist e <+: G'.hist e
  same : ∀ e, G'.hist e = G.hist e ∨ G'.ldr e = some x
  ini : ∀ e, G.ldr e ≠ none → G'.ini e = G.ini e
  ldr : ∀ e b, G.ldr e = some b → G'.ldr e = some b
  ldr' : ∀ e b, G'.ldr e = some b → G.ldr e = some b ∨ b = x
  voted : ∀ y e b, G.voted y e = some b → G'.voted y e = some b
  votedO : ∀ y, y ≠ x → G'.voted y = G.voted y
  cinfo : ∀ y e v, G.cinfo y e = some v → G'.cinfo y e = some v
  cinfoO : ∀ y, y ≠ x → G'.cinfo y = G.cinfo y
  fr : ∀ y e q, G.fr y e = some q → ∃ q', G'.fr y e = some q' ∧ Ple q q'
  frO : ∀ y, y ≠ x → G'.fr y = G.fr y
theorem Le.refl (x : Nat) (G : Ghost) : Le x G G :=
  ⟨fun _ => List.prefix_rfl, fun _ => .inl rfl, fun _ _ => rfl, fun _ _ h => h, fun _ _ h => .inl h, fun _ _ _ h => h, fun _ _ => rfl, fun _ _ _ h => h, fun _ _ => rfl, fun _ _ q h => ⟨q, h, Ple.refl q⟩, fun _ _ => rfl⟩
theorem Le.trans {x : Nat} {A B C : Ghost} (h : Le x A B) (k : Le x B C) : Le x A C where
  hist := fun e => (h.hist e).trans (k.hist e)
  same := fun e => by
    rcases k.same e with a | a
    · rcases h.same e with b | b
      · exact .inl (a.trans b)
      · exact .inr (k.ldr e x b)
    · exact .inr a
  ini := fun e hn => by
    have : B.ldr e ≠ none := by
      cases q : A.ldr e with
      | none => exact absurd q hn
      | some b => rw [h.ldr e b q]; exact Option.some_ne_none b
    rw [k.ini e this, h.ini e hn]
  ldr := fun e b z => k.ldr e b (h.ldr e b z)
  ldr' := fun e b z => by
    rcases k.ldr' e b z with a | a
    · exact h.ldr' e b a
    · exact .inr a
  voted := fun y e b z => k.voted y e b (h.voted y e b z)
  votedO := fun y hy => (k.votedO y hy).trans (h.votedO y hy)
  cinfo := fun y e v z => k.cinfo y e v (h.cinfo y e v z)
  cinfoO := fun y hy => (k.cinfoO y hy).trans (h.cinfoO y hy)
  fr := fun y e q z => by
    obtain ⟨q1, a, b⟩ := h.fr y e q z
    obtain ⟨q2, c, d⟩ := k.fr y e q1 a
    exact ⟨q2, c, b.trans d⟩
  frO := fun y hy => (k.frO y hy).trans (h.frO y hy)
theorem Com.mono {x e : Nat} {p : Place} (l : Le x G G') (c : Com M G e p) : Com M G' e p := by
  obtain ⟨hp, S, hS, hf⟩ := c
  refine ⟨places_pre (l.hist e) hp, S, hS, fun y hy => ?_⟩
  obtain ⟨q, h1, h2⟩ := hf y hy
  obtain ⟨q', h3, h4⟩ := l.fr y e q h1
  exact ⟨q', h3, h2.trans h4⟩
theorem Le.upTo {x e : Nat} {p : Place} (l : Le x G G') (g' : GInv M G') (hp : p ∈ places (G.hist e)) : upTo (G'.hist e) p = upTo (G.hist e) p := upTo_of_pre (g'.sorted e) (l.hist e) hp
theorem Le.led {x e : Nat} (l : Le x G G') (h : G.ldr e ≠ none) : G'.ldr e ≠ none := by
  cases q : G.ldr e with
  | none => exact absurd q h
  | some b => rw [l.ldr e b q]; exact Option.some_ne_none b
/-- up to p the row r is what was committed -/
def DoneOk (M : List Nat) (G : Ghost) (E : Nat) (r : Row) (p : Place) : Prop := p = (0, 0) ∨ ∃ e, e ≤ E ∧ Com M G e p ∧ upTo r p = upTo (G.hist e) p
theorem places_of_upTo_eq {a b : Row} {p : Place} (h : upTo a p = upTo b p) (hp : p ∈ places b) : p ∈ places a := by
  have : p ∈ places (upTo b p) := mem_places_upTo.mpr ⟨hp, Ple.refl p⟩
  rw [← h] at this
  exact (mem_places_upTo.mp this).1
theorem DoneOk.mono {x E : Nat} {r : Row} {p : Place} (l : Le x G G') (g' : GInv M G') (h : DoneOk M G E r p) : DoneOk M G' E r p := by
  rcases h with h | ⟨e, h1, h2, h3⟩
  · exact .inl h
  · exact .inr ⟨e, h1, h2.mono l, by rw [l.upTo g' h2.1]; exact h3⟩
/-! ### houses -/
structure HInv (M : List Nat) (G : Ghost) (x : Nat) (h : House) : Prop where
  nm : h.nm = x
  mem : h.mem = M
  ep : h.epoch ≤ h.promised
  row : h.row <+: G.hist h.epoch
  ini : G.ini h.epoch <+: h.row
  led : h.epoch = 0 ∨ G.ldr h.epoch ≠ none
  head : h.role = .leads → G.ldr h.epoch = some x ∧ h.row = G.hist h.epoch ∧ h.epoch = h.promised
  frE : 1 ≤ h.epoch → G.fr x h.epoch = some (last h.row)
  frB : ∀ e q, G.fr x e = some q → 1 ≤ e ∧ e ≤ h.epoch
  vB : ∀ e b, G.voted x e = some b → e ≤ h.promised
  lB : ∀ e, G.ldr e = some x → e ≤ h.epoch
  cB : ∀ e v, G.cinfo x e = some v → e ≤ h.promised
  cand : ∀ e, h.sought = some e → h.role ≠ .leads → e = h.promised ∧ h.epoch < e ∧ G.cinfo x e = some (h.epoch, h.row) ∧ (keys h.promises).Nodup ∧ ∀ y ∈ keys h.promises, y ∈ M ∧ G.voted y e = some x
  hd : ∀ o, h.head = some o → o ≠ x → h.sought = none
  tak : h.role = .leads → (keys h.taken).Nodup ∧ ∀ k ∈ h.taken, k.1 ∈ M ∧ ∃ q, G.fr k.1 h.epoch = some q ∧ Ple k.2 q
  dn : DoneOk M G h.epoch h.row h.done
theorem HInv.mono {x y : Nat} {h : House} (l : Le x G G') (g : GInv M G) (g' : GInv M G') (i : HInv M G y h) (ne : y ≠ x) : HInv M G' y h where
  nm := i.nm
  mem := i.mem
  ep := i.ep
  row := i.row.trans (l.hist _)
  ini := by
    rcases i.led with z | z
    · rw [z, (g'.none_ 0 g'.zero).2]; exact List.nil_prefix
    · rw [l.ini _ z]; exact i.ini
  led := i.led.imp id l.led
  head := fun hr => by
    obtain ⟨a, b, c⟩ := i.head hr
    refine ⟨l.ldr _ _ a, ?_, c⟩
    rcases l.same h.epoch with z | z
    · rw [z]; exact b
    · rw [l.ldr _ _ a] at z
      exact absurd (Option.some.inj z) ne
  frE := fun he => by rw [l.frO y ne]; exact i.frE he
  frB := fun e q z => i.frB e q (by rw [← l.frO y ne]; exact z)
  vB := fun e b z => i.vB e b (by rw [← l.votedO y ne]; exact z)
  lB := fun e z => i.lB e ((l.ldr' e y z).resolve_right ne)
  cB := fun e v z => i.cB e v (by rw [← l.cinfoO y ne]; exact z)
  cand := fun e hs hr => by
    obtain ⟨a, b, c, d, f⟩ := i.cand e hs hr
    exact ⟨a, b, l.cinfo _ _ _ c, d, fun z hz => ⟨(f z hz).1, l.voted _ _ _ (f z hz).2⟩⟩
  hd := i.hd
  tak := fun hr => by
    obtain ⟨a, b⟩ := i.tak hr
    refine ⟨a, fun k hk => ?_⟩
    obtain ⟨c, q, d, f⟩ := b k hk
    obtain ⟨q', d', f'⟩ := l.fr _ _ _ d
    exact ⟨c, q', d', f.trans f'⟩
  dn := i.dn.mono l g'
theorem HInv.srt {x : Nat} {h : House} (g : GInv M G) (i : HInv M G x h) : Sorted h.row := (g.sorted _).pre i.row
/-! ### letters -/
def BInv (M : List Nat) (G : Ghost) (src dst e : Nat) : Body → Prop
  | .seek ep la => ∃ R, G.cinfo src e = some (ep, R) ∧ la = last R
  | .promise _ => G.voted src e = some dst ∨ G.ldr e = some dst
  | .lead => G.ldr e = some src
  | .sync _ base things dn => G.ldr e = some src ∧ ∃ R, R <+: G.hist e ∧ G.ini e <+: R ∧ things = behind R base ∧ (base = (0, 0) ∨ base ∈ places R) ∧ DoneOk M G e (G.hist e) dn
  | .lack => True
  | .synced p => ∃ q, G.fr src e = some q ∧ Ple p q
  | .propose prior place en => G.ldr e = some src ∧ Plt prior place ∧ ∃ A B, G.hist e = A ++ (place, en) :: B ∧ ∀ t ∈ A, Ple t.1 prior
  | .took p => ∃ q, G.fr src e = some q ∧ Ple p q
  | .done p => G.ldr e = some src ∧ DoneOk M G e (G.hist e) p
structure LInv (M : List Nat) (G : Ghost) (l : Letter) : Prop where
  src : l.src ∈ M
  dst : l.dst ∈ M
  ne : l.src ≠ l.dst
  body : BInv M G l.src l.dst l.e l.body
theorem DoneOk.grow {x e : Nat} {p : Place} (l : Le x G G') (g' : GInv M G') (h : DoneOk M G e (G.hist e) p) : DoneOk M G' e (G'.hist e) p := by
  rcases h with h | ⟨e', h1, h2, h3⟩
  · exact .inl h
  · refine .inr ⟨e', h1, h2.mono l, ?_⟩
    rw [l.upTo g' h2.1, l.upTo g' (places_of_upTo_eq h3 h2.1)]
    exact h3
theorem LInv.mono {x : Nat} {t : Letter} (l : Le x G G') (g' : GInv M G') (i : LInv M G t) : LInv M G' t := by
  obtain ⟨src, dst, e, body⟩ := t
  refine ⟨i.src, i.dst, i.ne, ?_⟩
  have b := i.body
  cases body with
  | seek ep la =>
    obtain ⟨R, h1, h2⟩ := b
    exact ⟨R, l.cinfo _ _ _ h1, h2⟩
  | promise la =>
    rcases b with b | b
    · exact .inl (l.voted _ _ _ b)
    · exact .inr (l.ldr _ _ b)
  | lead => exact l.ldr _ _ b
  | sync way base things dn =>
    obtain ⟨h1, R, h2, h3, h4, h5, h6⟩ := b
    exact ⟨l.ldr _ _ h1, R, h2.trans (l.hist _), by show G'.ini e <+: R; rw [l.ini e (by rw [show G.ldr e = some src from h1]; exact Option.some_ne_none _)]; exact h3, h4, h5, h6.grow l g'⟩
  | lack => trivial
  | synced p =>
    obtain ⟨q, h1, h2⟩ := b
    obtain ⟨q', h3, h4⟩ := l.fr _ _ _ h1
    exact ⟨q', h3, h2.trans h4⟩
  | propose prior place en =>
    obtain ⟨h1, h2, A, B, h3, h4⟩ := b
    obtain ⟨C, hC⟩ := l.hist e
    refine ⟨l.ldr _ _ h1, h2, A, B ++ C, ?_, h4⟩
    show G'.hist e = A ++ (place, en) :: (B ++ C)
    rw [← hC, show G.hist e = A ++ (place, en) :: B from h3, List.append_assoc, List.cons_append]
  | took p =>
    obtain ⟨q, h1, h2⟩ := b
    obtain ⟨q', h3, h4⟩ := l.fr _ _ _ h1
    exact ⟨q', h3, h2.trans h4⟩
  | done p => exact ⟨l.ldr _ _ b.1, b.2.grow l g'⟩
/-- what a deed of x leads to -/
def Step (M : List Nat) (G : Ghost) (x : Nat) (r : House × List Letter) : Prop := ∃ G', Le x G G' ∧ GInv M G' ∧ HInv M G' x r.1 ∧ (∀ l ∈ r.2, LInv M G' l) ∧ G'.D = G.D
/-- .. and of a put -/
def StepP (M : List Nat) (G : Ghost) (x : Nat) (r : House × List Letter) : Prop := ∃ G', Le x G G' ∧ GInv M G' ∧ HInv M G' x r.1 ∧ (∀ l ∈ r.2, LInv M G' l) ∧ G'.D = G.D + 1
theorem Step.same {x : Nat} {h : House} {ls : List Letter} (g : GInv M G) (i : HInv M G x h) (hl : ∀ l ∈ ls, LInv M G l) : Step M G x (h, ls) := ⟨G, Le.refl x G, g, i, hl, rfl⟩
end
end Zab

set_option linter.all false
/-! Each deed of a house keeps the invariant. -/
namespace Zab
def set1 {α : Type} (f : Nat → α) (k : Nat) (v : α) : Nat → α := fun n => if n = k then v else f n
theorem set1_same {α : Type} {f : Nat → α} {k : Nat} {v : α} : set1 f k v k = v := if_pos rfl
theorem set1_ne {α : Type} {f : Nat → α} {k n : Nat} {v : α} (h : n ≠ k) : set1 f k v n = f n := if_neg h
def set2 {α : Type} (f : Nat → Nat → α) (x k : Nat) (v : α) : Nat → Nat → α := fun y => if y = x then set1 (f y) k v else f y
theorem set2_same {α : Type} {f : Nat → Nat → α} {x k : Nat} {v : α} : set2 f x k v x k = v := by unfold set2; rw [if_pos rfl]; exact set1_same
theorem set2_x {α : Type} {f : Nat → Nat → α} {x k n : Nat} {v : α} (h : n ≠ k) : set2 f x k v x n = f x n := by unfold set2; rw [if_pos rfl]; exact set1_ne h
theorem set2_ne {α : Type} {f : Nat → Nat → α} {x k y : Nat} {v : α} (h : y ≠ x) : set2 f x k v y = f y := if_neg h
section
variable {M : List Nat} {G G' : Ghost} {x : Nat} {h : House}
theorem HInv.standDown (i : HInv M G x h) : HInv M G x h.standDown where
  nm := i.nm
  mem := i.mem
  ep := i.ep
  row := i.row
  ini := i.ini
  led := i.led
  head := fun hr => by cases hr
  frE := i.frE
  frB := i.frB
  vB := i.vB
  lB := i.lB
  cB := i.cB
  cand := fun e hs _ => by cases hs
  hd := fun o ho _ => by cases ho
  tak := fun hr => by cases hr
  dn := i.dn
theorem HInv.beginAnew (i : HInv M G x h) : HInv M G x h.beginAnew where
  nm := i.nm
  mem := i.mem
  ep := i.ep
  row := i.row
  ini := i.ini
  led := i.led
  head := fun hr => by cases hr
  frE := i.frE
  frB := i.frB
  vB := i.vB
  lB := i.lB
  cB := i.cB
  cand := fun e hs _ => by cases hs
  hd := fun o ho _ => by cases ho
  tak := fun hr => by cases hr
  dn := .inl rfl
/-- it promises a greater epoch, having stood down -/
theorem HInv.promise (i : HInv M G x h) {e : Nat} (he : h.promised ≤ e) : HInv M G x { h.standDown with promised := e } where
  nm := i.nm
  mem := i.mem
  ep := Nat.le_trans i.ep he
  row := i.row
  ini := i.ini
  led := i.led
  head := fun hr => by cases hr
  frE := i.frE
  frB := i.frB
  vB := fun e b z => Nat.le_trans (i.vB e b z) he
  lB := i.lB
  cB := fun e v z => Nat.le_trans (i.cB e v z) he
  cand := fun e hs _ => by cases hs
  hd := fun o ho _ => by cases ho
  tak := fun hr => by cases hr
  dn := i.dn
theorem HInv.follow (i : HInv M G x h) {o : Nat} (ho : o ≠ x) : HInv M G x (h.follow o) := by
  have key : ∀ k : House, HInv M G x k → (k.head = some o ∨ k.sought = none) → HInv M G x { k with role := .follows, head := some o } := fun k i c =>
    { nm := i.nm, mem := i.mem, ep := i.ep, row := i.row, ini := i.ini, led := i.led, head := fun hr => by cases hr
      frE := i.frE, frB := i.frB, vB := i.vB, lB := i.lB, cB := i.cB
      cand := fun e hs _ => by
        have hs' : k.sought = some e := hs
        have hn : k.sought = none := c.elim (fun q => i.hd o q ho) id
        rw [hn] at hs'
        cases hs'
      hd := fun _ _ _ => c.elim (fun q => i.hd o q ho) id
      tak := fun hr => by cases hr
      dn := i.dn }
  unfold House.follow
  by_cases c : h.head = some o
  · rw [if_pos c]
    exact key h i (.inl c)
  · rw [if_neg c]
    exact key h.standDown i.standDown (.inr rfl)
theorem HInv.goOnTo (i : HInv M G x h) {p : Place} (d : DoneOk M G h.epoch h.row p) : HInv M G x (h.goOnTo p) where
  nm := i.nm
  mem := i.mem
  ep := i.ep
  row := i.row
  ini := i.ini
  led := i.led
  head := i.head
  frE := i.frE
  frB := i.frB
  vB := i.vB
  lB := i.lB
  cB := i.cB
  cand := i.cand
  hd := i.hd
  tak := i.tak
  dn := by
    show DoneOk M G h.epoch h.row (pmax h.done p)
    unfold pmax
    split
    · exact d
    · exact i.dn
theorem HInv.posRow (g : GInv M G) (i : HInv M G x h) {p : Place} (hp : p ∈ places h.row) : 1 ≤ p.1 ∧ p.1 ≤ h.epoch := g.pos (places_pre i.row hp)
/-- what a letter's done comes to at a house of that epoch -/
theorem HInv.doneMin (g : GInv M G) (i : HInv M G x h) {p : Place} (d : DoneOk M G h.epoch (G.hist h.epoch) p) : DoneOk M G h.epoch h.row (pmin p (last h.row)) := by
  rcases d with rfl | ⟨e', he, hc, hu⟩
  · left
    unfold pmin
    rw [if_neg]
    unfold Plt
    simp only
    omega
  · have hpH : p ∈ places (G.hist h.epoch) := places_of_upTo_eq hu hc.1
    have hpos := (g.pos hpH).1
    unfold pmin
    split
    · rename_i hlt
      by_cases hr : h.row = []
      · left
        rw [hr]
        rfl
      · obtain ⟨t, ht, e⟩ := last_mem hr
        have hm : last h.row ∈ places h.row := List.mem_map.mpr ⟨t, ht, e⟩
        have hmH := places_pre i.row hm
        right
        by_cases c : e' = h.epoch
        · subst c
          obtain ⟨_, S, hS, hf⟩ := hc
          refine ⟨h.epoch, Nat.le_refl _, ⟨hmH, S, hS, fun y hy => ?_⟩, (upTo_of_pre (g.sorted _) i.row hm).symm⟩
          obtain ⟨q, h1, h2⟩ := hf y hy
          exact ⟨q, h1, hlt.le.trans h2⟩
        · have hlt' : e' < h.epoch := by omega
          have hl : G.ldr h.epoch ≠ none := i.led.resolve_left (by omega)
          have pre := (g.complete hl hlt' hc).trans i.ini
          have : p ∈ places h.row := places_pre pre (mem_places_upTo.mpr ⟨hc.1, Ple.refl p⟩)
          obtain ⟨u, hu1, rfl⟩ := List.mem_map.mp this
          exact absurd (plt_of_plt_ple hlt (le_last (i.srt g) hu1)) (plt_irrefl _)
    · rename_i hge
      have hle : Ple p (last h.row) := not_plt.mp hge
      have hm := pre_has (g.sorted _) i.row hpH hle hpos
      right
      exact ⟨e', he, hc, by rw [← upTo_of_pre (g.sorted _) i.row hm]; exact hu⟩
/-! ### marks -/
theorem mark_spec (d : Dic) {n : Nat} (h1 : 1 ≤ n) (h2 : n ≤ d.length) : n ≤ (d.filter fun k => decide (Ple (House.mark d (n - 1)) k.2)).length := by
  have hs : ((d.map (·.2)).mergeSort (fun a b => decide (Ple b a))).Pairwise (fun a b => decide (Ple b a) = true) :=
    List.pairwise_mergeSort (fun a b c h k => by
      simp only [decide_eq_true_eq] at *
      exact k.trans h) (fun a b => by
      simp only [Bool.or_eq_true, decide_eq_true_eq]
      exact (ple_total a b).symm) _
  have hp := List.mergeSort_perm (d.map (·.2)) (fun a b => decide (Ple b a))
  unfold House.mark
  generalize ((d.map (·.2)).mergeSort (fun a b => decide (Ple b a))) = s at hs hp
  have hl : s.length = d.length := by rw [hp.length_eq, List.length_map]
  have hn : n - 1 < s.length := by omega
  have hget : s.getD (n - 1) (0, 0) = s[n - 1] := by rw [List.getD_eq_getElem?_getD, List.getElem?_eq_getElem hn]; rfl
  rw [hget]
  have e1 : (d.filter fun k => decide (Ple s[n - 1] k.2)).length = ((d.map (·.2)).filter fun q => decide (Ple s[n - 1] q)).length := by
    rw [List.filter_map, List.length_map]
    rfl
  rw [e1, ← (hp.filter _).length_eq]
  have e2 : (s.take n).filter (fun q => decide (Ple s[n - 1] q)) = s.take n := by
    refine List.filter_eq_self.mpr fun q hq => ?_
    obtain ⟨j, hj, rfl⟩ := List.mem_iff_getElem.mp hq
    rw [List.length_take] at hj
    rw [List.getElem_take]
    by_cases c : j = n - 1
    · subst c
      exact decide_eq_true (Ple.refl _)
    · exact List.pairwise_iff_getElem.mp hs j (n - 1) (by omega) hn (by omega)
  have e3 : ((s.take n).filter (fun q => decide (Ple s[n - 1] q))).length ≤ (s.filter (fun q => decide (Ple s[n - 1] q))).length := ((List.take_sublist n s).filter _).length_le
  rw [e2, List.length_take] at e3
  omega
theorem mem_others (i : HInv M G x h) {o : Nat} (ho : o ∈ h.others) : o ∈ M ∧ o ≠ x := by
  unfold House.others at ho
  obtain ⟨h1, h2⟩ := List.mem_filter.mp ho
  rw [i.mem] at h1
  rw [i.nm] at h2
  exact ⟨h1, of_decide_eq_true h2⟩
theorem settled_leads (hs : h.settled = true) : h.role = .leads := of_decide_eq_true (Bool.and_eq_true_iff.mp hs).1
theorem settled_most (hs : h.settled = true) : most h.mem.length ≤ h.taken.length := of_decide_eq_true (Bool.and_eq_true_iff.mp hs).2
/-- a settled head's mark is committed -/
theorem com_mark (g : GInv M G) (i : HInv M G x h) (hs : h.settled = true) {p : Place} (hp : p ∈ places h.row) (hm : Ple p (House.mark h.taken (most h.mem.length - 1))) : Com M G h.epoch p := by
  have hr := settled_leads hs
  obtain ⟨hnd, hk⟩ := i.tak hr
  refine ⟨places_pre i.row hp, keys (h.taken.filter fun k => decide (Ple (House.mark h.taken (most h.mem.length - 1)) k.2)), ⟨?_, ?_, ?_⟩, ?_⟩
  · exact List.Pairwise.sublist (List.Sublist.map _ List.filter_sublist) hnd
  · intro y hy
    obtain ⟨k, hk1, rfl⟩ := List.mem_map.mp hy
    exact (hk k (List.mem_filter.mp hk1).1).1
  · have := mark_spec h.taken (n := most h.mem.length) (by unfold most; omega) (settled_most hs)
    rw [i.mem] at this
    unfold keys
    rw [List.length_map, i.mem]
    exact this
  · intro y hy
    obtain ⟨k, hk1, rfl⟩ := List.mem_map.mp hy
    obtain ⟨a, b⟩ := List.mem_filter.mp hk1
    obtain ⟨_, q, h1, h2⟩ := hk k a
    exact ⟨q, h1, hm.trans ((of_decide_eq_true b).trans h2)⟩
theorem lookDone_ok (g : GInv M G) (hx : x ∈ M) (i : HInv M G x h) : HInv M G x h.lookDone.1 ∧ ∀ l ∈ h.lookDone.2, LInv M G l := by
  unfold House.lookDone
  by_cases hs : h.settled = true
  · rw [if_pos hs]
    cases e : h.doneNew.getLast? with
    | none => exact ⟨i, fun l hl => by cases hl⟩
    | some p =>
      have hp := List.mem_of_getLast? e
      unfold House.doneNew at hp
      obtain ⟨h1, h2⟩ := List.mem_filter.mp hp
      obtain ⟨h3, h4⟩ := Bool.and_eq_true_iff.mp h2
      have hc := com_mark g i hs h1 (of_decide_eq_true h4)
      have hr := i.head (settled_leads hs)
      have hd : DoneOk M G h.epoch h.row p := .inr ⟨h.epoch, Nat.le_refl _, hc, by rw [hr.2.1]⟩
      refine ⟨i.goOnTo hd, fun l hl => ?_⟩
      obtain ⟨o, ho, rfl⟩ := List.mem_map.mp hl
      obtain ⟨oM, ox⟩ := mem_others i (List.mem_filter.mp ho).1
      refine ⟨by show h.nm ∈ M; rw [i.nm]; exact hx, oM, by show h.nm ≠ o; rw [i.nm]; exact ox.symm, ?_⟩
      show G.ldr h.epoch = some h.nm ∧ DoneOk M G h.epoch (G.hist h.epoch) p
      rw [i.nm, ← hr.2.1]
      exact ⟨hr.1, hd⟩
  · rw [if_neg hs]
    exact ⟨i, fun l hl => by cases hl⟩
theorem syncBy_ok (g : GInv M G) (hx : x ∈ M) (i : HInv M G x h) (hr : h.role = .leads) {o way : Nat} {base : Place} (hoM : o ∈ M) (hox : o ≠ x) (hb : base = (0, 0) ∨ base ∈ places h.row) : LInv M G (h.syncBy o way base) := by
  obtain ⟨h1, h2, _⟩ := i.head hr
  refine ⟨by show h.nm ∈ M; rw [i.nm]; exact hx, hoM, by show h.nm ≠ o; rw [i.nm]; exact hox.symm, ?_⟩
  show G.ldr h.epoch = some h.nm ∧ ∃ R, R <+: G.hist h.epoch ∧ G.ini h.epoch <+: R ∧ behind h.row base = behind R base ∧ (base = (0, 0) ∨ base ∈ places R) ∧ DoneOk M G h.epoch (G.hist h.epoch) h.done
  rw [i.nm]
  exact ⟨h1, h.row, i.row, i.ini, rfl, hb, by rw [← h2]; exact i.dn⟩
theorem syncFor_ok (g : GInv M G) (hx : x ∈ M) (i : HInv M G x h) (hr : h.role = .leads) {o : Nat} (hoM : o ∈ M) (hox : o ≠ x) : LInv M G (h.syncFor o) := by
  unfold House.syncFor
  simp only
  split
  · rename_i c
    exact syncBy_ok g hx i hr hoM hox (hasP_iff.mp c)
  · split
    · rename_i b e
      exact syncBy_ok g hx i hr hoM hox (.inr (List.mem_filter.mp (List.mem_of_getLast? e)).1)
    · exact syncBy_ok g hx i hr hoM hox (.inl rfl)
end
end Zab

set_option linter.all false
/-! Each deed of a house keeps the invariant: leading, seeking, putting, letters. -/
namespace Zab
section
variable {M : List Nat} {G G' : Ghost} {x : Nat} {h : House}
theorem some_ne {α : Type} {o : Option α} {a : α} (h : o = some a) : o ≠ none := by rw [h]; exact Option.some_ne_none a
/-- a candidate with most promises leads -/
theorem lead_ok (g : GInv M G) (hx : x ∈ M) (i : HInv M G x h) {e : Nat} (hs : h.sought = some e) (hr : h.role ≠ .leads) (hq : most M.length ≤ h.promises.length) : Step M G x h.lead := by
  obtain ⟨he, hlt, hci, hnd, hpr⟩ := i.cand e hs hr
  have hQ : Quor M (keys h.promises) := ⟨hnd, fun y hy => (hpr y hy).1, by unfold keys; rw [List.length_map]; exact hq⟩
  have hnone : G.ldr e = none := by
    cases q : G.ldr e with
    | none => rfl
    | some b =>
      obtain ⟨_, _, S, hS, hv⟩ := g.led e b q
      obtain ⟨y, hy1, hy2⟩ := quor_meet hS hQ
      have a := hv y hy1
      rw [(hpr y hy2).2] at a
      have hb : x = b := Option.some.inj a
      subst hb
      have := i.lB e q
      omega
  obtain ⟨hh0, hi0⟩ := g.none_ e hnone
  have hsr := i.srt g
  let G1 : Ghost := { G with ldr := set1 G.ldr e (some x), hist := set1 G.hist e h.row, ini := set1 G.ini e h.row, fr := set2 G.fr x e (some (last h.row)) }
  have hist_e : G1.hist e = h.row := set1_same
  have hist_ne : ∀ {n}, n ≠ e → G1.hist n = G.hist n := fun hn => set1_ne hn
  have ini_e : G1.ini e = h.row := set1_same
  have ini_ne : ∀ {n}, n ≠ e → G1.ini n = G.ini n := fun hn => set1_ne hn
  have ldr_e : G1.ldr e = some x := set1_same
  have ldr_ne : ∀ {n}, n ≠ e → G1.ldr n = G.ldr n := fun hn => set1_ne hn
  have fr_old : ∀ y n q, G.fr y n = some q → G1.fr y n = some q := fun y n q z => by
    by_cases c : y = x
    · subst c
      have := i.frB n q z
      show set2 G.fr y e _ y n = _
      rw [set2_x (by omega)]
      exact z
    · show set2 G.fr x e _ y n = _
      rw [set2_ne c]
      exact z
  have hle : Le x G G1 := {
    hist := fun n => by
      by_cases c : n = e
      · rw [c, hh0]; exact List.nil_prefix
      · rw [hist_ne c]; exact List.prefix_rfl
    same := fun n => by
      by_cases c : n = e
      · rw [c]; exact .inr ldr_e
      · exact .inl (hist_ne c)
    ini := fun n hn => by
      by_cases c : n = e
      · rw [c] at hn; exact absurd hnone hn
      · exact ini_ne c
    ldr := fun n b z => by
      by_cases c : n = e
      · rw [c, hnone] at z; cases z
      · rw [ldr_ne c]; exact z
    ldr' := fun n b z => by
      by_cases c : n = e
      · rw [c, ldr_e] at z; exact .inr (Option.some.inj z).symm
      · rw [ldr_ne c] at z; exact .inl z
    voted := fun _ _ _ z => z
    votedO := fun _ _ => rfl
    cinfo := fun _ _ _ z => z
    cinfoO := fun _ _ => rfl
    fr := fun y n q z => ⟨q, fr_old y n q z, Ple.refl q⟩
    frO := fun y hy => set2_ne hy }
  have ne_of_mem : ∀ {n : Nat} {t : Thing}, t ∈ G.hist n → n ≠ e := fun ht c => by
    rw [c, hh0] at ht
    cases ht
  have g1 : GInv M G1 := {
    sorted := fun n => by
      by_cases c : n = e
      · rw [c, hist_e]; exact hsr
      · rw [hist_ne c]; exact g.sorted n
    bnd := fun n t ht => by
      by_cases c : n = e
      · rw [c, hist_e] at ht
        have := g.bnd _ t (i.row.subset ht)
        omega
      · rw [hist_ne c] at ht; exact g.bnd n t ht
    ini_pre := fun n => by
      by_cases c : n = e
      · rw [c, hist_e, ini_e]; exact List.prefix_rfl
      · rw [hist_ne c, ini_ne c]; exact g.ini_pre n
    lm := fun n t ht => by
      by_cases c : n = e
      · rw [c, hist_e] at ht ⊢
        have hm := i.row.subset ht
        have b := g.bnd _ t hm
        rw [hist_ne (show t.1.1 ≠ e by omega), ← g.lm _ t hm]
        exact (upTo_of_pre (g.sorted _) i.row (List.mem_map.mpr ⟨t, ht, rfl⟩)).symm
      · rw [hist_ne c] at ht ⊢
        have q := g.lm n t ht
        have hm : t.1 ∈ places (G.hist t.1.1) := places_of_upTo_eq q.symm (List.mem_map.mpr ⟨t, ht, rfl⟩)
        obtain ⟨u, hu, _⟩ := List.mem_map.mp hm
        rw [hist_ne (ne_of_mem hu)]
        exact q
    none_ := fun n hn => by
      by_cases c : n = e
      · rw [c, ldr_e] at hn; cases hn
      · rw [ldr_ne c] at hn; rw [hist_ne c, ini_ne c]; exact g.none_ n hn
    led := fun n b hn => by
      by_cases c : n = e
      · rw [c, ldr_e] at hn
        have hb : x = b := Option.some.inj hn
        subst hb
        rw [c, ini_e]
        exact ⟨hx, ⟨_, hci⟩, _, hQ, fun y hy => (hpr y hy).2⟩
      · rw [ldr_ne c] at hn
        rw [ini_ne c]
        exact g.led n b hn
    ci := fun b n ep R hc => by
      obtain ⟨a1, a2, a3, a4⟩ := g.ci b n ep R hc
      have hne : ep ≠ e := fun c => by
        rcases a4 with z | z
        · omega
        · rw [c] at z; exact z hnone
      rw [hist_ne hne, ini_ne hne, ldr_ne hne]
      exact ⟨a1, a2, a3, a4⟩
    vote := fun y n b hv => by
      obtain ⟨ep, R, c1, c2⟩ := g.vote y n b hv
      refine ⟨ep, R, c1, fun e' q he' hf => ?_⟩
      by_cases c : y = x ∧ e' = e
      · obtain ⟨rfl, rfl⟩ := c
        have := i.vB n b hv
        omega
      · have : G.fr y e' = some q := by
          by_cases cy : y = x
          · subst cy
            have ce : e' ≠ e := fun z => c ⟨rfl, z⟩
            have z : set2 G.fr y e _ y e' = some q := hf
            rw [set2_x ce] at z
            exact z
          · have z : set2 G.fr x e _ y e' = some q := hf
            rw [set2_ne cy] at z
            exact z
        exact c2 e' q he' this
    siz := fun n => by
      by_cases c : n = e
      · rw [c, hist_e]
        obtain ⟨a, b⟩ := g.siz h.epoch
        exact ⟨Nat.le_trans i.row.length_le a, fun t ht => b t (i.row.subset ht)⟩
      · rw [hist_ne c]; exact g.siz n }
  let h1 : House := { h with role := .leads, head := some h.nm, epoch := h.promised, taken := [(h.nm, h.lst)] }
  have ep1 : h1.epoch = e := he.symm
  have fr1 : G1.fr x e = some (last h.row) := set2_same
  have i1 : HInv M G1 x h1 := {
    nm := i.nm
    mem := i.mem
    ep := Nat.le_refl _
    row := by rw [ep1, hist_e]; exact List.prefix_rfl
    ini := by rw [ep1, ini_e]; exact List.prefix_rfl
    led := .inr (by rw [ep1, ldr_e]; exact Option.some_ne_none _)
    head := fun _ => by rw [ep1]; exact ⟨ldr_e, hist_e.symm, he⟩
    frE := fun _ => by rw [ep1]; exact fr1
    frB := fun n q z => by
      rw [ep1]
      by_cases c : n = e
      · omega
      · have z2 : set2 G.fr x e _ x n = some q := z
        rw [set2_x c] at z2
        have := i.frB n q z2
        omega
    vB := i.vB
    lB := fun n z => by
      rw [ep1]
      by_cases c : n = e
      · omega
      · rw [ldr_ne c] at z
        have := i.lB n z
        omega
    cB := i.cB
    cand := fun n hs hr => absurd rfl hr
    hd := fun o ho hox => by
      have : h.nm = o := Option.some.inj ho
      rw [i.nm] at this
      exact absurd this.symm hox
    tak := fun _ => by
      refine ⟨List.nodup_cons.mpr ⟨List.not_mem_nil, List.nodup_nil⟩, fun k hk => ?_⟩
      rw [List.mem_singleton.mp hk]
      refine ⟨by show h.nm ∈ M; rw [i.nm]; exact hx, last h.row, ?_, Ple.refl _⟩
      show G1.fr h.nm h1.epoch = _
      rw [i.nm, ep1]
      exact fr1
    dn := by
      rcases i.dn with z | ⟨e0, z1, z2, z3⟩
      · exact .inl z
      · refine .inr ⟨e0, by rw [ep1]; omega, z2.mono hle, ?_⟩
        rw [hist_ne (show e0 ≠ e by omega)]
        exact z3 }
  obtain ⟨i2, l2⟩ := lookDone_ok g1 hx i1
  refine ⟨G1, hle, g1, i2, fun l hl => ?_, rfl⟩
  have hl' : l ∈ ((h1.others.filter fun o => dhas h1.promises o).map h1.syncFor) ++ h1.lookDone.2 := hl
  rcases List.mem_append.mp hl' with hm | hm
  · obtain ⟨o, ho, rfl⟩ := List.mem_map.mp hm
    obtain ⟨a, b⟩ := mem_others i1 (List.mem_filter.mp ho).1
    exact syncFor_ok g1 hx i1 rfl a b
  · exact l2 l hm
/-- it seeks -/
theorem seek_ok (g : GInv M G) (hx : x ∈ M) (i : HInv M G x h) : Step M G x h.seek := by
  let e := h.promised + 1
  have cnone : G.cinfo x e = none := by
    cases q : G.cinfo x e with
    | none => rfl
    | some v =>
      have := i.cB e v q
      exact absurd this (by show ¬ h.promised + 1 ≤ _; omega)
  let G1 : Ghost := { G with cinfo := set2 G.cinfo x e (some (h.epoch, h.row)), voted := set2 G.voted x e (some x) }
  have cx : G1.cinfo x e = some (h.epoch, h.row) := set2_same
  have vx : G1.voted x e = some x := set2_same
  have cold : ∀ y n v, G.cinfo y n = some v → G1.cinfo y n = some v := fun y n v z => by
    by_cases c : y = x
    · subst c
      have hn : n ≠ e := fun q => by rw [q, cnone] at z; cases z
      show set2 G.cinfo y e _ y n = _
      rw [set2_x hn]
      exact z
    · show set2 G.cinfo x e _ y n = _
      rw [set2_ne c]
      exact z
  have vold : ∀ y n v, G.voted y n = some v → G1.voted y n = some v := fun y n v z => by
    by_cases c : y = x
    · subst c
      have hn : n ≠ e := fun q => by
        have := i.vB n v z
        have : e = h.promised + 1 := rfl
        omega
      show set2 G.voted y e _ y n = _
      rw [set2_x hn]
      exact z
    · show set2 G.voted x e _ y n = _
      rw [set2_ne c]
      exact z
  have hle : Le x G G1 := {
    hist := fun _ => List.prefix_rfl
    same := fun _ => .inl rfl
    ini := fun _ _ => rfl
    ldr := fun _ _ z => z
    ldr' := fun _ _ z => .inl z
    voted := vold
    votedO := fun y hy => set2_ne hy
    cinfo := cold
    cinfoO := fun y hy => set2_ne hy
    fr := fun _ _ q z => ⟨q, z, Ple.refl q⟩
    frO := fun _ _ => rfl }
  have g1 : GInv M G1 := {
    sorted := g.sorted
    bnd := g.bnd
    ini_pre := g.ini_pre
    lm := g.lm
    none_ := g.none_
    led := fun n b hn => by
      obtain ⟨a1, ⟨ep, a2⟩, S, a3, a4⟩ := g.led n b hn
      exact ⟨a1, ⟨ep, cold _ _ _ a2⟩, S, a3, fun y hy => vold _ _ _ (a4 y hy)⟩
    ci := fun b n ep R hc => by
      by_cases c : b = x ∧ n = e
      · obtain ⟨rfl, rfl⟩ := c
        rw [cx] at hc
        obtain ⟨rfl, rfl⟩ : h.epoch = ep ∧ h.row = R := by simpa using hc
        exact ⟨Nat.lt_succ_of_le i.ep, i.row, i.ini, i.led⟩
      · have : G.cinfo b n = some (ep, R) := by
          by_cases cb : b = x
          · subst cb
            have z : set2 G.cinfo b e _ b n = _ := hc
            rw [set2_x (fun q => c ⟨rfl, q⟩)] at z
            exact z
          · have z : set2 G.cinfo x e _ b n = _ := hc
            rw [set2_ne cb] at z
            exact z
        exact g.ci b n ep R this
    vote := fun y n b hv => by
      by_cases c : y = x ∧ n = e
      · obtain ⟨rfl, rfl⟩ := c
        rw [vx] at hv
        have hb : y = b := Option.some.inj hv
        subst hb
        refine ⟨h.epoch, h.row, cx, fun e' q he' hf => ?_⟩
        have z : G.fr y e' = some q := hf
        have hb := i.frB e' q z
        by_cases ce : e' = h.epoch
        · right
          refine ⟨ce, ?_⟩
          by_cases c0 : 1 ≤ h.epoch
          · rw [ce, i.frE c0] at z
            rw [← Option.some.inj z]
            exact Ple.refl _
          · omega
        · left
          omega
      · have : G.voted y n = some b := by
          by_cases cy : y = x
          · subst cy
            have z : set2 G.voted y e _ y n = _ := hv
            rw [set2_x (fun q => c ⟨rfl, q⟩)] at z
            exact z
          · have z : set2 G.voted x e _ y n = _ := hv
            rw [set2_ne cy] at z
            exact z
        obtain ⟨ep, R, c1, c2⟩ := g.vote y n b this
        exact ⟨ep, R, cold _ _ _ c1, c2⟩
    siz := g.siz }
  let h2 : House := { h.standDown with promised := e, sought := some e, promises := [(h.nm, h.lst)] }
  have i2 : HInv M G1 x h2 := {
    nm := i.nm
    mem := i.mem
    ep := Nat.le_succ_of_le i.ep
    row := i.row
    ini := i.ini
    led := i.led
    head := fun hr => by cases hr
    frE := i.frE
    frB := i.frB
    vB := fun n b z => by
      show n ≤ h.promised + 1
      by_cases c : n = e
      · exact Nat.le_of_eq c
      · have z2 : set2 G.voted x e _ x n = _ := z
        rw [set2_x c] at z2
        exact Nat.le_succ_of_le (i.vB n b z2)
    lB := i.lB
    cB := fun n v z => by
      show n ≤ h.promised + 1
      by_cases c : n = e
      · exact Nat.le_of_eq c
      · have z2 : set2 G.cinfo x e _ x n = _ := z
        rw [set2_x c] at z2
        exact Nat.le_succ_of_le (i.cB n v z2)
    cand := fun n hs _ => by
      have hn : e = n := Option.some.inj hs
      subst hn
      refine ⟨rfl, Nat.lt_succ_of_le i.ep, cx, List.nodup_cons.mpr ⟨List.not_mem_nil, List.nodup_nil⟩, fun y hy => ?_⟩
      have hy' : y = h.nm := List.mem_singleton.mp hy
      rw [hy', i.nm]
      exact ⟨hx, vx⟩
    hd := fun o ho _ => by cases ho
    tak := fun hr => by cases hr
    dn := i.dn.mono hle g1 }
  have e1 : h.seek = if most h.mem.length = 1 then h2.lead else (h2, h2.others.map fun o => ⟨h.nm, o, h.promised + 1, .seek h.epoch h.lst⟩) := rfl
  rw [e1]
  split
  · rename_i c
    obtain ⟨G3, a1, a2, a3, a4, a5⟩ := lead_ok g1 hx i2 (e := e) rfl (fun z => by cases z) (by rw [← i.mem, c]; exact Nat.le_refl 1)
    exact ⟨G3, hle.trans a1, a2, a3, a4, a5⟩
  · refine ⟨G1, hle, g1, i2, fun l hl => ?_, rfl⟩
    obtain ⟨o, ho, rfl⟩ := List.mem_map.mp hl
    obtain ⟨oM, ox⟩ := mem_others i2 ho
    refine ⟨by show h.nm ∈ M; rw [i.nm]; exact hx, oM, by show h.nm ≠ o; rw [i.nm]; exact ox.symm, ?_⟩
    show ∃ R, G1.cinfo h.nm e = some (h.epoch, R) ∧ h.lst = last R
    rw [i.nm]
    exact ⟨h.row, cx, rfl⟩
/-- a head puts an entry -/
theorem put_ok (g : GInv M G) (hx : x ∈ M) (i : HInv M G x h) (hr : h.role = .leads) (en : Ent) (hen : en.2 ≤ G.D + 1) (hen1 : 1 ≤ en.2) : StepP M G x (h.put en) := by
  obtain ⟨hl, hrow, hpe⟩ := i.head hr
  have hsr := i.srt g
  have e1 : 1 ≤ h.epoch := by
    rcases Nat.eq_zero_or_pos h.epoch with z | z
    · rw [z, g.zero] at hl; cases hl
    · exact z
  let place : Place := (h.epoch, if h.lst.1 = h.epoch then h.lst.2 + 1 else 1)
  have hlt : Plt (last h.row) place := by
    show Plt h.lst place
    have hle : h.lst.1 ≤ h.epoch := by
      rcases row_cases h.row with z | ⟨a, t, z⟩
      · unfold House.lst; rw [z]; exact Nat.zero_le _
      · have hm : t ∈ h.row := by rw [z]; simp
        have := (g.bnd _ t (i.row.subset hm)).2
        unfold House.lst
        rw [z, last_snoc]
        exact this
    unfold Plt
    by_cases c : h.lst.1 = h.epoch
    · right
      refine ⟨c, ?_⟩
      show h.lst.2 < (if h.lst.1 = h.epoch then h.lst.2 + 1 else 1)
      rw [if_pos c]
      omega
    · left
      show h.lst.1 < h.epoch
      omega
  have hall : ∀ t ∈ h.row, Plt t.1 place := fun t ht => plt_of_ple_plt (le_last hsr ht) hlt
  let row1 : Row := h.row ++ [(place, en)]
  have hsr1 : Sorted row1 := List.pairwise_append.mpr ⟨hsr, List.pairwise_singleton _ _, fun a ha b hb => by
    rw [List.mem_singleton.mp hb]
    exact hall a ha⟩
  have last1 : last row1 = place := last_snoc _ _
  let G1 : Ghost := { G with hist := set1 G.hist h.epoch row1, fr := set2 G.fr x h.epoch (some place), D := G.D + 1 }
  have hist_e : G1.hist h.epoch = row1 := set1_same
  have hist_ne : ∀ {n}, n ≠ h.epoch → G1.hist n = G.hist n := fun hn => set1_ne hn
  have pre1 : G.hist h.epoch <+: row1 := by rw [← hrow]; exact List.prefix_append _ _
  have hle : Le x G G1 := {
    hist := fun n => by
      by_cases c : n = h.epoch
      · rw [c, hist_e]; exact pre1
      · rw [hist_ne c]; exact List.prefix_rfl
    same := fun n => by
      by_cases c : n = h.epoch
      · rw [c]; exact .inr hl
      · exact .inl (hist_ne c)
    ini := fun _ _ => rfl
    ldr := fun _ _ z => z
    ldr' := fun _ _ z => .inl z
    voted := fun _ _ _ z => z
    votedO := fun _ _ => rfl
    cinfo := fun _ _ _ z => z
    cinfoO := fun _ _ => rfl
    fr := fun y n q z => by
      by_cases c : y = x
      · subst c
        by_cases cn : n = h.epoch
        · subst cn
          rw [i.frE e1] at z
          refine ⟨place, set2_same, ?_⟩
          rw [← Option.some.inj z]
          exact hlt.le
        · refine ⟨q, ?_, Ple.refl q⟩
          show set2 G.fr y h.epoch _ y n = _
          rw [set2_x cn]
          exact z
      · refine ⟨q, ?_, Ple.refl q⟩
        show set2 G.fr x h.epoch _ y n = _
        rw [set2_ne c]
        exact z
    frO := fun y hy => set2_ne hy }
  have g1 : GInv M G1 := {
    sorted := fun n => by
      by_cases c : n = h.epoch
      · rw [c, hist_e]; exact hsr1
      · rw [hist_ne c]; exact g.sorted n
    bnd := fun n t ht => by
      by_cases c : n = h.epoch
      · rw [c, hist_e] at ht
        rcases List.mem_append.mp ht with hm | hm
        · rw [c]; exact g.bnd _ t (i.row.subset hm)
        · rw [List.mem_singleton.mp hm, c]
          exact ⟨e1, Nat.le_refl _⟩
      · rw [hist_ne c] at ht; exact g.bnd n t ht
    ini_pre := fun n => (g.ini_pre n).trans (hle.hist n)
    lm := fun n t ht => by
      have old : ∀ {n : Nat} {t : Thing}, t ∈ G.hist n → upTo (G1.hist n) t.1 = upTo (G1.hist t.1.1) t.1 := fun {n t} ht => by
        have q := g.lm n t ht
        have hp : t.1 ∈ places (G.hist n) := List.mem_map.mpr ⟨t, ht, rfl⟩
        have hp2 : t.1 ∈ places (G.hist t.1.1) := places_of_upTo_eq q.symm hp
        have up : ∀ {m : Nat}, t.1 ∈ places (G.hist m) → upTo (G1.hist m) t.1 = upTo (G.hist m) t.1 := fun {m} hm => by
          by_cases c : m = h.epoch
          · subst c
            rw [hist_e]
            exact upTo_of_pre hsr1 pre1 hm
          · rw [hist_ne c]
        rw [up hp, up hp2]
        exact q
      by_cases c : n = h.epoch
      · rw [c, hist_e] at ht
        rcases List.mem_append.mp ht with hm | hm
        · rw [c]
          exact old (i.row.subset hm)
        · rw [List.mem_singleton.mp hm, c]
      · rw [hist_ne c] at ht
        exact old ht
    none_ := fun n hn => by
      have c : n ≠ h.epoch := fun c => by
        rw [c] at hn
        have hn' : G.ldr h.epoch = none := hn
        rw [hl] at hn'
        cases hn'
      rw [hist_ne c]
      exact g.none_ n hn
    led := g.led
    ci := fun b n ep R hc => by
      obtain ⟨a1, a2, a3, a4⟩ := g.ci b n ep R hc
      exact ⟨a1, a2.trans (hle.hist ep), a3, a4⟩
    vote := fun y n b hv => by
      obtain ⟨ep, R, c1, c2⟩ := g.vote y n b hv
      refine ⟨ep, R, c1, fun e' q he' hf => ?_⟩
      by_cases c : y = x ∧ e' = h.epoch
      · obtain ⟨rfl, rfl⟩ := c
        have := i.vB n b hv
        omega
      · have : G.fr y e' = some q := by
          by_cases cy : y = x
          · subst cy
            have z : set2 G.fr y h.epoch _ y e' = some q := hf
            rw [set2_x fun z => c ⟨rfl, z⟩] at z
            exact z
          · have z : set2 G.fr x h.epoch _ y e' = some q := hf
            rw [set2_ne cy] at z
            exact z
        exact c2 e' q he' this
    siz := fun n => by
      show (G1.hist n).length ≤ G.D + 1 ∧ ∀ t ∈ G1.hist n, t.1.2 ≤ G.D + 1 ∧ t.2.2 ≤ G.D + 1 ∧ 1 ≤ t.2.2
      by_cases c : n = h.epoch
      · rw [c, hist_e]
        obtain ⟨a, b⟩ := g.siz h.epoch
        have b' : ∀ t ∈ h.row, t.1.2 ≤ G.D ∧ t.2.2 ≤ G.D ∧ 1 ≤ t.2.2 := fun t ht => b t (i.row.subset ht)
        refine ⟨?_, fun t ht => ?_⟩
        · show (h.row ++ [(place, en)]).length ≤ _
          rw [List.length_append]
          have := Nat.le_trans i.row.length_le a
          show h.row.length + 1 ≤ _
          omega
        · rcases List.mem_append.mp ht with hm | hm
          · have := b' t hm
            omega
          · rw [List.mem_singleton.mp hm]
            refine ⟨?_, hen, hen1⟩
            show (if h.lst.1 = h.epoch then h.lst.2 + 1 else 1) ≤ _
            split
            · rcases row_cases h.row with z | ⟨a', u, z⟩
              · unfold House.lst
                rw [z]
                show 0 + 1 ≤ _
                omega
              · have := (b' u (by rw [z]; simp)).1
                unfold House.lst
                rw [z, last_snoc]
                omega
            · omega
      · rw [hist_ne c]
        obtain ⟨a, b⟩ := g.siz n
        exact ⟨by omega, fun t ht => by have := b t ht; omega⟩ }
  let h1 : House := { h with row := row1, taken := dput h.taken h.nm place }
  have fr1 : G1.fr x h.epoch = some (last row1) := by rw [last1]; exact set2_same
  have i1 : HInv M G1 x h1 := {
    nm := i.nm
    mem := i.mem
    ep := i.ep
    row := by show row1 <+: G1.hist h.epoch; rw [hist_e]; exact List.prefix_rfl
    ini := i.ini.trans (List.prefix_append _ _)
    led := i.led
    head := fun _ => ⟨hl, hist_e.symm, hpe⟩
    frE := fun _ => fr1
    frB := fun n q z => by
      by_cases c : n = h.epoch
      · rw [c]; exact ⟨e1, Nat.le_refl _⟩
      · have z2 : set2 G.fr x h.epoch _ x n = some q := z
        rw [set2_x c] at z2
        exact i.frB n q z2
    vB := i.vB
    lB := i.lB
    cB := i.cB
    cand := fun n hs hr2 => absurd hr hr2
    hd := i.hd
    tak := fun _ => by
      obtain ⟨a, b⟩ := i.tak hr
      refine ⟨nodup_dput a, fun k hk => ?_⟩
      rcases mem_dput' hk with z | z
      · rw [z]
        refine ⟨by show h.nm ∈ M; rw [i.nm]; exact hx, place, ?_, Ple.refl _⟩
        show G1.fr h.nm h.epoch = _
        rw [i.nm, fr1, last1]
      · obtain ⟨c, q, d, f⟩ := b k z
        obtain ⟨q', d', f'⟩ := hle.fr _ _ _ d
        exact ⟨c, q', d', f.trans f'⟩
    dn := by
      rcases i.dn with z | ⟨e0, z1, z2, z3⟩
      · exact .inl z
      · refine .inr ⟨e0, z1, z2.mono hle, ?_⟩
        rw [hle.upTo g1 z2.1, ← z3]
        exact upTo_of_pre hsr1 (List.prefix_append _ _) (places_of_upTo_eq z3 z2.1) }
  obtain ⟨i2, l2⟩ := lookDone_ok g1 hx i1
  refine ⟨G1, hle, g1, i2, fun l hlm => ?_, rfl⟩
  have hl' : l ∈ ((h1.others.filter fun o => dhas h1.taken o).map fun o => (⟨h.nm, o, h.epoch, .propose h.lst place en⟩ : Letter)) ++ h1.lookDone.2 := hlm
  rcases List.mem_append.mp hl' with hm | hm
  · obtain ⟨o, ho, rfl⟩ := List.mem_map.mp hm
    obtain ⟨a, b⟩ := mem_others i1 (List.mem_filter.mp ho).1
    refine ⟨by show h.nm ∈ M; rw [i.nm]; exact hx, a, by show h.nm ≠ o; rw [i.nm]; exact b.symm, ?_⟩
    show G1.ldr h.epoch = some h.nm ∧ Plt h.lst place ∧ ∃ A B, G1.hist h.epoch = A ++ (place, en) :: B ∧ ∀ t ∈ A, Ple t.1 h.lst
    rw [i.nm, hist_e]
    exact ⟨hl, hlt, h.row, [], rfl, fun t ht => le_last hsr ht⟩
  · exact l2 l hm
end
end Zab

set_option linter.all false
/-! Each deed of a house keeps the invariant: the letters taken, the beat. -/
namespace Zab
section
variable {M : List Nat} {G G' : Ghost} {x : Nat} {h : House}
theorem mk_l {src dst e : Nat} {b : Body} (h1 : src = x) (hx : x ∈ M) (hd : dst ∈ M) (ne : dst ≠ x) (hb : BInv M G x dst e b) : LInv M G ⟨src, dst, e, b⟩ := by
  subst h1
  exact ⟨hx, hd, ne.symm, hb⟩
/-- a promise of a greater epoch -/
theorem onSeek_ok (g : GInv M G) (hx : x ∈ M) (i : HInv M G x h) {o e ep : Nat} {la : Place} (hoM : o ∈ M) (hox : o ≠ x) (hb : ∃ R, G.cinfo o e = some (ep, R) ∧ la = last R) : Step M G x (h.onSeek o e ep la) := by
  unfold House.onSeek
  split
  · exact .same g i fun l hl => by cases hl
  · rename_i hlt
    have hlt : h.promised < e := by omega
    simp only
    split
    · rename_i hc
      obtain ⟨R, hR, rfl⟩ := hb
      let G1 : Ghost := { G with voted := set2 G.voted x e (some o) }
      have vx : G1.voted x e = some o := set2_same
      have vold : ∀ y n v, G.voted y n = some v → G1.voted y n = some v := fun y n v z => by
        by_cases c : y = x
        · subst c
          have hn : n ≠ e := fun q => by
            have := i.vB n v z
            omega
          show set2 G.voted y e _ y n = _
          rw [set2_x hn]
          exact z
        · show set2 G.voted x e _ y n = _
          rw [set2_ne c]
          exact z
      have hle : Le x G G1 := {
        hist := fun _ => List.prefix_rfl
        same := fun _ => .inl rfl
        ini := fun _ _ => rfl
        ldr := fun _ _ z => z
        ldr' := fun _ _ z => .inl z
        voted := vold
        votedO := fun y hy => set2_ne hy
        cinfo := fun _ _ _ z => z
        cinfoO := fun _ _ => rfl
        fr := fun _ _ q z => ⟨q, z, Ple.refl q⟩
        frO := fun _ _ => rfl }
      have g1 : GInv M G1 := {
        sorted := g.sorted
        bnd := g.bnd
        ini_pre := g.ini_pre
        lm := g.lm
        none_ := g.none_
        led := fun n b hn => by
          obtain ⟨a1, a2, S, a3, a4⟩ := g.led n b hn
          exact ⟨a1, a2, S, a3, fun y hy => vold _ _ _ (a4 y hy)⟩
        ci := g.ci
        vote := fun y n b hv => by
          by_cases c : y = x ∧ n = e
          · obtain ⟨rfl, rfl⟩ := c
            rw [vx] at hv
            have hb : o = b := Option.some.inj hv
            subst hb
            refine ⟨ep, R, hR, fun e' q he' hf => ?_⟩
            have z : G.fr y e' = some q := hf
            have hB := i.frB e' q z
            by_cases ce : e' = h.epoch
            · subst ce
              rw [i.frE hB.1] at z
              rw [← Option.some.inj z]
              rcases hc with hc | hc
              · exact .inl hc
              · exact .inr hc
            · left
              omega
          · have : G.voted y n = some b := by
              by_cases cy : y = x
              · subst cy
                have z : set2 G.voted y e _ y n = _ := hv
                rw [set2_x (fun q => c ⟨rfl, q⟩)] at z
                exact z
              · have z : set2 G.voted x e _ y n = _ := hv
                rw [set2_ne cy] at z
                exact z
            exact g.vote y n b this
        siz := g.siz }
      have i1 := i.promise (e := e) (by omega)
      have i2 : HInv M G1 x { h.standDown with promised := e } := {
        nm := i1.nm, mem := i1.mem, ep := i1.ep, row := i1.row, ini := i1.ini, led := i1.led, head := fun hr => by cases hr
        frE := i1.frE, frB := i1.frB
        vB := fun n b z => by
          by_cases c : n = e
          · rw [c]; exact Nat.le_refl e
          · have z2 : set2 G.voted x e _ x n = _ := z
            rw [set2_x c] at z2
            exact i1.vB n b z2
        lB := i1.lB, cB := i1.cB
        cand := fun n hs _ => by cases hs
        hd := fun o ho _ => by cases ho
        tak := fun hr => by cases hr
        dn := i1.dn.mono hle g1 }
      refine ⟨G1, hle, g1, i2, fun l hl => ?_, rfl⟩
      rw [List.mem_singleton.mp hl]
      exact mk_l i.nm hx hoM hox (.inl vx)
    · exact .same g (i.promise (by omega)) fun l hl => by cases hl
theorem onPromise_ok (g : GInv M G) (hx : x ∈ M) (i : HInv M G x h) {o e : Nat} {la : Place} (hoM : o ∈ M) (hox : o ≠ x) (hb : G.voted o e = some x ∨ G.ldr e = some x) : Step M G x (h.onPromise o e la) := by
  unfold House.onPromise
  by_cases hl : h.leadsBy e = true
  · rw [if_pos hl]
    obtain ⟨hr, _⟩ := Bool.and_eq_true_iff.mp hl
    have hr : h.role = .leads := of_decide_eq_true hr
    have i1 : HInv M G x { h with promises := dput h.promises o la, taken := ddel h.taken o } := {
      nm := i.nm, mem := i.mem, ep := i.ep, row := i.row, ini := i.ini, led := i.led, head := i.head, frE := i.frE, frB := i.frB, vB := i.vB, lB := i.lB, cB := i.cB
      cand := fun n hs hn => absurd hr hn
      hd := i.hd
      tak := fun _ => by
        obtain ⟨a, b⟩ := i.tak hr
        exact ⟨nodup_ddel a, fun k hk => b k (mem_ddel hk)⟩
      dn := i.dn }
    refine .same g i1 fun l hm => ?_
    rw [List.mem_singleton.mp hm]
    exact syncFor_ok g hx i1 hr hoM hox
  · rw [if_neg hl]
    split
    · exact .same g i fun l hl => by cases hl
    · rename_i hc
      have he : e = h.promised := Classical.byContradiction fun q => hc (.inl q)
      have hs : h.sought = some e := Classical.byContradiction fun q => hc (.inr q)
      simp only
      by_cases hr : h.role = .leads
      · -- it leads by another epoch: then it seeks by none of it
        exfalso
        obtain ⟨_, _, c⟩ := i.head hr
        apply hl
        unfold House.leadsBy
        rw [decide_eq_true hr, decide_eq_true (he.trans c.symm)]
        rfl
      · obtain ⟨c1, c2, c3, c4, c5⟩ := i.cand e hs hr
        have hv : G.voted o e = some x := hb.resolve_right fun z => by
          have := i.lB e z
          omega
        have i1 : HInv M G x { h with promises := dput h.promises o la } := {
          nm := i.nm, mem := i.mem, ep := i.ep, row := i.row, ini := i.ini, led := i.led, head := i.head, frE := i.frE, frB := i.frB, vB := i.vB, lB := i.lB, cB := i.cB
          cand := fun n hsn hn => by
            have : e = n := Option.some.inj (hs.symm.trans hsn)
            subst this
            refine ⟨c1, c2, c3, nodup_dput c4, fun y hy => ?_⟩
            have hy' : y ∈ keys (dput h.promises o la) := hy
            rw [keys_dput] at hy'
            split at hy'
            · exact c5 y hy'
            · rcases List.mem_append.mp hy' with z | z
              · exact c5 y z
              · rw [List.mem_singleton.mp z]
                exact ⟨hoM, hv⟩
          hd := i.hd, tak := i.tak, dn := i.dn }
        split
        · rename_i hq
          exact lead_ok g hx i1 hs hr (by rw [← i.mem]; exact hq)
        · exact .same g i1 fun l hl => by cases hl
theorem onLead_ok (g : GInv M G) (hx : x ∈ M) (i : HInv M G x h) {o e : Nat} (hoM : o ∈ M) (hox : o ≠ x) (hb : G.ldr e = some o) : Step M G x (h.onLead o e) := by
  unfold House.onLead
  split
  · exact .same g i fun l hl => by cases hl
  · rename_i hc
    have : h.promised ≤ e := Nat.le_of_not_lt fun q => hc (.inl q)
    refine .same g (i.promise this) fun l hl => ?_
    rw [List.mem_singleton.mp hl]
    exact mk_l i.nm hx hoM hox (.inr hb)
/-- a row that a head brings: the follower's row cut to base, and what stands behind, is a beginning of the head's -/
theorem brought (g : GInv M G) {r R : Row} {E e : Nat} {base : Place} (hr : r <+: G.hist E) (hR : R <+: G.hist e) (hb : base = (0, 0) ∨ base ∈ places r) (hb2 : base = (0, 0) ∨ base ∈ places R) : upTo r base ++ behind R base = R := by
  have sR := (g.sorted e).pre hR
  have sr := (g.sorted E).pre hr
  rcases hb with rfl | h1
  · have e1 : ∀ t : Thing, t ∈ r ∨ t ∈ R → Plt (0, 0) t.1 := fun t ht => by
      have h1 : 1 ≤ t.1.1 := by
        rcases ht with h | h
        · exact (g.bnd _ t (hr.subset h)).1
        · exact (g.bnd _ t (hR.subset h)).1
      unfold Plt
      simp only
      omega
    rw [upTo_none fun t ht => e1 t (.inl ht), behind_all fun t ht => e1 t (.inr ht)]
    rfl
  · have h0 : base ≠ (0, 0) := fun z => by
      obtain ⟨t, ht, q⟩ := List.mem_map.mp h1
      have := (g.bnd _ t (hr.subset ht)).1
      rw [q, z] at this
      simp at this
    have h2 := hb2.resolve_left h0
    have u : ∀ {E : Nat} {r : Row}, r <+: G.hist E → base ∈ places r → upTo r base = upTo (G.hist base.1) base := fun {E r} hr hp => by
      rw [← upTo_of_pre (g.sorted E) hr hp]
      obtain ⟨t, ht, rfl⟩ := List.mem_map.mp hp
      exact g.lm E t (hr.subset ht)
    rw [u hr h1, ← u hR h2]
    exact cut base sR
/-- the frontier of x in an epoch goes on -/
theorem grow_fr (g : GInv M G) {e : Nat} {p : Place} (hv : ∀ n b, G.voted x n = some b → n ≤ e) (ho : ∀ q, G.fr x e = some q → Ple q p) : ∃ G1 : Ghost, G1 = { G with fr := set2 G.fr x e (some p) } ∧ Le x G G1 ∧ GInv M G1 := by
  refine ⟨_, rfl, ?_, ?_⟩
  · exact {
      hist := fun _ => List.prefix_rfl
      same := fun _ => .inl rfl
      ini := fun _ _ => rfl
      ldr := fun _ _ z => z
      ldr' := fun _ _ z => .inl z
      voted := fun _ _ _ z => z
      votedO := fun _ _ => rfl
      cinfo := fun _ _ _ z => z
      cinfoO := fun _ _ => rfl
      fr := fun y n q z => by
        by_cases c : y = x
        · subst c
          by_cases cn : n = e
          · subst cn
            exact ⟨p, set2_same, ho q z⟩
          · refine ⟨q, ?_, Ple.refl q⟩
            show set2 G.fr y e _ y n = _
            rw [set2_x cn]
            exact z
        · refine ⟨q, ?_, Ple.refl q⟩
          show set2 G.fr x e _ y n = _
          rw [set2_ne c]
          exact z
      frO := fun y hy => set2_ne hy }
  · exact {
      sorted := g.sorted, bnd := g.bnd, ini_pre := g.ini_pre, lm := g.lm, none_ := g.none_, led := g.led, ci := g.ci, siz := g.siz
      vote := fun y n b hv2 => by
        obtain ⟨ep, R, c1, c2⟩ := g.vote y n b hv2
        refine ⟨ep, R, c1, fun e' q he' hf => ?_⟩
        by_cases c : y = x ∧ e' = e
        · obtain ⟨rfl, rfl⟩ := c
          have := hv n b hv2
          omega
        · have : G.fr y e' = some q := by
            by_cases cy : y = x
            · subst cy
              have z : set2 G.fr y e _ y e' = some q := hf
              rw [set2_x fun z => c ⟨rfl, z⟩] at z
              exact z
            · have z : set2 G.fr x e _ y e' = some q := hf
              rw [set2_ne cy] at z
              exact z
          exact c2 e' q he' this }
theorem stands (hs : h.standsBy e = true) : e = h.promised ∧ e = h.epoch ∧ h.role ≠ .leads := by
  unfold House.standsBy at hs
  obtain ⟨a, b⟩ := Bool.and_eq_true_iff.mp hs
  obtain ⟨b, c⟩ := Bool.and_eq_true_iff.mp b
  refine ⟨of_decide_eq_true a, of_decide_eq_true b, fun q => ?_⟩
  rw [decide_eq_true q] at c
  cases c
theorem follow_row (o : Nat) : (h.follow o).row = h.row ∧ (h.follow o).epoch = h.epoch ∧ (h.follow o).promised = h.promised ∧ (h.follow o).done = h.done ∧ (h.follow o).nm = h.nm ∧ (h.follow o).role = .follows ∧ (h.follow o).fresh = h.fresh := by
  unfold House.follow
  by_cases c : h.head = some o
  · rw [if_pos c]
    exact ⟨rfl, rfl, rfl, rfl, rfl, rfl, rfl⟩
  · rw [if_neg c]
    exact ⟨rfl, rfl, rfl, rfl, rfl, rfl, rfl⟩
theorem ldr_pos (g : GInv M G) {e b : Nat} (h : G.ldr e = some b) : 1 ≤ e := by
  rcases Nat.eq_zero_or_pos e with z | z
  · rw [z, g.zero] at h; cases h
  · exact z
theorem onSync_ok (g : GInv M G) (hx : x ∈ M) (i : HInv M G x h) {o e : Nat} {base dn : Place} {things : Row} (hoM : o ∈ M) (hox : o ≠ x) (hl : G.ldr e = some o)
    (hb : ∃ R, R <+: G.hist e ∧ G.ini e <+: R ∧ things = behind R base ∧ (base = (0, 0) ∨ base ∈ places R) ∧ DoneOk M G e (G.hist e) dn) : Step M G x (h.onSync o e base things dn) := by
  have hpos := ldr_pos g hl
  unfold House.onSync
  split
  · rename_i hc
    obtain ⟨hp, hlt⟩ := hc
    split
    · rename_i hb1
      obtain ⟨R, hR, hini, rfl, hb2, hdn⟩ := hb
      have hrow := brought g i.row hR (hasP_iff.mp hb1) hb2
      simp only
      rw [hrow]
      have nofr : ∀ q, G.fr x e = some q → Ple q (last R) := fun q z => by
        have := i.frB e q z
        omega
      obtain ⟨G1, hG, hle, g1⟩ := grow_fr (x := x) g (e := e) (p := last R) (fun n b z => by have := i.vB n b z; omega) nofr
      have fr1 : G1.fr x e = some (last R) := by rw [hG]; exact set2_same
      have frne : ∀ {n}, n ≠ e → G1.fr x n = G.fr x n := fun hn => by rw [hG]; exact set2_x hn
      have hh : G1.hist = G.hist := by rw [hG]
      have hnl : h.role ≠ .leads := fun q => by
        have := (i.head q).2.2
        omega
      have hsR := (g.sorted e).pre hR
      -- with the row brought; what it seeks by is forgotten by follow
      have key : ∀ k : House, k.nm = h.nm → k.mem = h.mem → k.promised = h.promised → k.epoch = e → k.row = R → k.done = h.done → k.role = .follows → k.sought = none → HInv M G1 x k := fun k e1 e2 e3 e4 e5 e6 e7 e8 => {
        nm := e1.trans i.nm
        mem := e2.trans i.mem
        ep := by rw [e4, e3]; omega
        row := by rw [e5, e4, hh]; exact hR
        ini := by rw [e5, e4, hle.ini e (some_ne hl)]; exact hini
        led := .inr (by rw [e4]; exact hle.led (some_ne hl))
        head := fun hr => by rw [e7] at hr; cases hr
        frE := fun _ => by rw [e4, e5]; exact fr1
        frB := fun n q z => by
          rw [e4]
          by_cases c : n = e
          · omega
          · rw [frne c] at z
            have := i.frB n q z
            omega
        vB := fun n b z => by
          rw [e3]
          exact i.vB n b (by rw [hG] at z; exact z)
        lB := fun n z => by
          rw [e4]
          have := i.lB n (by rw [hG] at z; exact z)
          omega
        cB := fun n v z => by
          rw [e3]
          exact i.cB n v (by rw [hG] at z; exact z)
        cand := fun n hs _ => by rw [e8] at hs; cases hs
        hd := fun _ _ _ => e8
        tak := fun hr => by rw [e7] at hr; cases hr
        dn := by
          rw [e4, e5, e6]
          rcases i.dn with z | ⟨e0, z1, z2, z3⟩
          · exact .inl z
          · have pre := (g.complete (some_ne hl) (show e0 < e by omega) z2).trans hini
            refine .inr ⟨e0, by omega, z2.mono hle, ?_⟩
            rw [hh]
            exact upTo_pre_eq hsR pre (mem_places_upTo.mpr ⟨z2.1, Ple.refl _⟩) fun t ht => (mem_upTo.mp ht).2 }
      let h1 : House := { h with row := R, epoch := e }
      have i2 : HInv M G1 x (h1.follow o) := by
        by_cases c : h.head = some o
        · have e1 : h1.follow o = { h1 with role := .follows, head := some o } := by
            unfold House.follow
            simp only
            rw [if_pos (show h1.head = some o from c)]
          rw [e1]
          exact key _ rfl rfl rfl rfl rfl rfl rfl (i.hd o c hox)
        · have e1 : h1.follow o = { h1.standDown with role := .follows, head := some o } := by
            unfold House.follow
            simp only
            rw [if_neg (show ¬ h1.head = some o from c)]
          rw [e1]
          exact key _ rfl rfl rfl rfl rfl rfl rfl rfl
      obtain ⟨f1, f2, f3, f4, f5, f6⟩ := follow_row (h := h1) o
      have d2 : DoneOk M G1 (h1.follow o).epoch (G1.hist (h1.follow o).epoch) dn := by
        rw [f2]
        exact hdn.grow hle g1
      have i3 := i2.goOnTo (i2.doneMin g1 d2)
      refine ⟨G1, hle, g1, i3, fun l hl => ?_, by rw [hG]⟩
      rw [List.mem_singleton.mp hl]
      refine mk_l i.nm hx hoM hox ⟨last R, fr1, ?_⟩
      show Ple (last ((h1.follow o).goOnTo _).row) (last R)
      have : ((h1.follow o).goOnTo (pmin dn (h1.follow o).lst)).row = R := f1
      rw [this]
      exact Ple.refl _
    · refine .same g i fun l hl => ?_
      rw [List.mem_singleton.mp hl]
      exact mk_l i.nm hx hoM hox trivial
  · split
    · rename_i hs
      obtain ⟨h1, h2, h3⟩ := stands hs
      obtain ⟨f1, f2, f3, f4, f5, f6⟩ := follow_row (h := h) o
      refine .same g (i.follow hox) fun l hl => ?_
      rw [List.mem_singleton.mp hl]
      refine mk_l i.nm hx hoM hox ⟨last h.row, ?_, ?_⟩
      · rw [h2]
        exact i.frE (by omega)
      · show Ple (last (h.follow o).row) (last h.row)
        rw [f1]
        exact Ple.refl _
    · exact .same g i fun l hl => by cases hl
theorem onPropose_ok (g : GInv M G) (hx : x ∈ M) (i : HInv M G x h) {o e : Nat} {prior place : Place} {en : Ent} (hoM : o ∈ M) (hox : o ≠ x) (hl : G.ldr e = some o) (hlt : Plt prior place)
    (hb : ∃ A B, G.hist e = A ++ (place, en) :: B ∧ ∀ t ∈ A, Ple t.1 prior) : Step M G x (h.onPropose o e prior place en) := by
  have hpos := ldr_pos g hl
  unfold House.onPropose
  split
  · rename_i hs
    obtain ⟨h1, h2, h3⟩ := stands hs
    have i1 := i.follow (o := o) hox
    obtain ⟨f1, f2, f3, f4, f5, f6⟩ := follow_row (h := h) o
    simp only
    have took : ∀ {G1 : Ghost} {k : House}, k.row ≠ [] ∨ k.row = [] → G1.fr x e = some (last k.row) → ∀ l ∈ (if hasP k.row place then [(⟨h.nm, o, e, .took k.lst⟩ : Letter)] else []), LInv M G1 l := fun {G1 k} _ hf l hm => by
      split at hm
      · rw [List.mem_singleton.mp hm]
        exact mk_l i.nm hx hoM hox ⟨last k.row, hf, Ple.refl _⟩
      · cases hm
    by_cases hp : (h.follow o).lst = prior
    · rw [if_pos hp]
      have hp' : last h.row = prior := by rw [← hp]; show last h.row = last (h.follow o).row; rw [f1]
      obtain ⟨A, B, hh, hA⟩ := hb
      -- the row is A
      have hrA : h.row = A := by
        have p1 : h.row <+: A ++ (place, en) :: B := by rw [← hh, h2]; exact i.row
        have p2 : A ++ [(place, en)] <+: A ++ (place, en) :: B := ⟨B, by simp⟩
        have sH := g.sorted e
        rw [hh] at sH
        rcases pre_total p1 p2 with q | q
        · -- the row is a beginning of A and the thing
          obtain ⟨C, hC⟩ := q
          rcases row_cases C with z | ⟨C', t, z⟩
          · exfalso
            rw [z, List.append_nil] at hC
            rw [hC, last_snoc] at hp'
            rw [show (place, en).1 = place from rfl] at hp'
            rw [hp'] at hlt
            exact plt_irrefl _ hlt
          · rw [z, ← List.append_assoc] at hC
            have hA' : h.row ++ C' = A := (List.append_inj_left' hC rfl)
            rcases C' with _ | ⟨c, C''⟩
            · rw [← hA', List.append_nil]
            · exfalso
              have hm : c ∈ A := by rw [← hA']; simp
              have hcl := hA c hm
              have sA : Sorted (h.row ++ c :: C'') := by rw [hA']; exact sH.pre (List.prefix_append _ _)
              by_cases hn : h.row = []
              · rw [hn, last_nil] at hp'
                rw [← hp'] at hcl
                have := (g.bnd e c (by rw [hh]; simp [hm])).1
                unfold Ple at hcl
                simp only at hcl
                omega
              · exact absurd (plt_of_plt_ple (tail_gt sA (Ple.refl _) hn c List.mem_cons_self) (hcl.trans (by rw [hp']; exact Ple.refl _))) (plt_irrefl _)
        · exfalso
          have hm : (place, en) ∈ h.row := q.subset (by simp)
          have := le_last (i.srt g) hm
          rw [hp'] at this
          exact absurd (plt_of_plt_ple hlt this) (plt_irrefl _)
      have hnew : h.row ++ [(place, en)] <+: G.hist e := by rw [hrA, hh]; exact ⟨B, by simp⟩
      obtain ⟨G1, hG, hle, g1⟩ := grow_fr (x := x) g (e := e) (p := place) (fun n b z => by have := i.vB n b z; omega) fun q z => by
        rw [h2, i.frE (by omega)] at z
        rw [← Option.some.inj z, hp']
        exact hlt.le
      have fr1 : G1.fr x e = some place := by rw [hG]; exact set2_same
      have frne : ∀ {n}, n ≠ e → G1.fr x n = G.fr x n := fun hn => by rw [hG]; exact set2_x hn
      have hh1 : G1.hist = G.hist := by rw [hG]
      have hnr : ((h.follow o).row ++ [(place, en)]) = h.row ++ [(place, en)] := by rw [f1]
      have i2 : HInv M G1 x { h.follow o with row := (h.follow o).row ++ [(place, en)] } := {
        nm := i1.nm, mem := i1.mem, ep := i1.ep
        row := by
          show (h.follow o).row ++ [(place, en)] <+: G1.hist (h.follow o).epoch
          rw [hnr, f2, hh1, ← h2]
          exact hnew
        ini := by
          show G1.ini (h.follow o).epoch <+: (h.follow o).row ++ [(place, en)]
          rw [f2, ← h2, hle.ini e (some_ne hl), hnr]
          rw [h2]
          exact i.ini.trans (List.prefix_append _ _)
        led := .inr (by show G1.ldr (h.follow o).epoch ≠ none; rw [f2, ← h2]; exact hle.led (some_ne hl))
        head := fun hr => by
          have : (h.follow o).role = .leads := hr
          rw [f6.1] at this
          cases this
        frE := fun _ => by
          show G1.fr x (h.follow o).epoch = some (last ((h.follow o).row ++ [(place, en)]))
          rw [f2, ← h2, last_snoc]
          exact fr1
        frB := fun n q z => by
          show 1 ≤ n ∧ n ≤ (h.follow o).epoch
          rw [f2]
          by_cases c : n = e
          · omega
          · rw [frne c] at z
            exact i.frB n q z
        vB := fun n b z => i1.vB n b (by rw [hG] at z; exact z)
        lB := fun n z => i1.lB n (by rw [hG] at z; exact z)
        cB := fun n v z => i1.cB n v (by rw [hG] at z; exact z)
        cand := fun n hs hr => by
          obtain ⟨a, b, _⟩ := i1.cand n hs (by rw [f6.1]; intro q; cases q)
          rw [f3] at a
          rw [f2] at b
          omega
        hd := i1.hd
        tak := fun hr => by
          have : (h.follow o).role = .leads := hr
          rw [f6.1] at this
          cases this
        dn := by
          show DoneOk M G1 (h.follow o).epoch ((h.follow o).row ++ [(place, en)]) (h.follow o).done
          rw [f2, f4, hnr]
          rcases i.dn with z | ⟨e0, z1, z2, z3⟩
          · exact .inl z
          · refine .inr ⟨e0, z1, z2.mono hle, ?_⟩
            rw [hh1, ← z3]
            exact upTo_of_pre ((g.sorted e).pre hnew) (List.prefix_append _ _) (places_of_upTo_eq z3 z2.1) }
      refine ⟨G1, hle, g1, i2, ?_, by rw [hG]⟩
      exact took (k := { h.follow o with row := (h.follow o).row ++ [(place, en)] }) (Classical.em _).symm (by
        show G1.fr x e = some (last ((h.follow o).row ++ [(place, en)]))
        rw [last_snoc]
        exact fr1)
    · rw [if_neg hp]
      refine .same g i1 ?_
      exact took (k := h.follow o) (Classical.em _).symm (by rw [f1, h2]; exact i.frE (by omega))
  · exact .same g i fun l hl => by cases hl
theorem onDone_ok (g : GInv M G) (hx : x ∈ M) (i : HInv M G x h) {o e : Nat} {p : Place} (hox : o ≠ x) (hb : DoneOk M G e (G.hist e) p) : Step M G x (h.onDone o e p) := by
  unfold House.onDone
  split
  · rename_i hs
    obtain ⟨h1, h2, h3⟩ := stands hs
    have i1 := i.follow (o := o) hox
    obtain ⟨f1, f2, f3, f4, f5, f6⟩ := follow_row (h := h) o
    have d2 : DoneOk M G (h.follow o).epoch (G.hist (h.follow o).epoch) p := by
      rw [f2, ← h2]
      exact hb
    exact .same g (i1.goOnTo (i1.doneMin g d2)) fun l hl => by cases hl
  · exact .same g i fun l hl => by cases hl
theorem onTook_ok (g : GInv M G) (hx : x ∈ M) (i : HInv M G x h) {o e : Nat} {p : Place} (hl : h.leadsBy e = true) (hoM : o ∈ M) (hb : ∃ q, G.fr o e = some q ∧ Ple p q) : Step M G x (h.onTook o p) := by
  obtain ⟨hr, he⟩ := Bool.and_eq_true_iff.mp hl
  have hr : h.role = .leads := of_decide_eq_true hr
  have he : e = h.epoch := of_decide_eq_true he
  subst he
  have i1 : HInv M G x { h with taken := dput h.taken o (pmax ((dget h.taken o).getD (0, 0)) p) } := {
    nm := i.nm, mem := i.mem, ep := i.ep, row := i.row, ini := i.ini, led := i.led, head := i.head, frE := i.frE, frB := i.frB, vB := i.vB, lB := i.lB, cB := i.cB, cand := i.cand, hd := i.hd
    tak := fun _ => by
      obtain ⟨a, b⟩ := i.tak hr
      refine ⟨nodup_dput a, fun k hk => ?_⟩
      rcases mem_dput' hk with z | z
      · rw [z]
        obtain ⟨q, h1, h2⟩ := hb
        refine ⟨hoM, q, h1, ?_⟩
        show Ple (pmax ((dget h.taken o).getD (0, 0)) p) q
        unfold pmax
        split
        · exact h2
        · cases c : dget h.taken o with
          | none => exact ple_zero q
          | some v =>
            obtain ⟨_, q', h3, h4⟩ := b _ (dget_mem c)
            have : q' = q := Option.some.inj (h3.symm.trans h1)
            rw [← this]
            exact h4
      · exact b k z
    dn := i.dn }
  obtain ⟨i2, l2⟩ := lookDone_ok g hx i1
  exact ⟨G, Le.refl x G, g, i2, l2, rfl⟩
/-- any letter of the post -/
theorem take_ok (g : GInv M G) (hx : x ∈ M) (i : HInv M G x h) {l : Letter} (hl : LInv M G l) (hd : l.dst = x) : Step M G x (h.take l) := by
  obtain ⟨src, dst, e, body⟩ := l
  have hd : dst = x := hd
  subst hd
  have hs : src ∈ M := hl.src
  have hne : src ≠ dst := hl.ne
  have b := hl.body
  cases body with
  | seek ep la => exact onSeek_ok g hx i hs hne b
  | promise la => exact onPromise_ok g hx i hs hne b
  | lead => exact onLead_ok g hx i hs hne b
  | sync way base things dn => exact onSync_ok g hx i hs hne b.1 b.2
  | lack =>
    show Step M G dst (if h.leadsBy e then (h, [h.syncBy src 2 (0, 0)]) else (h, []))
    split
    · rename_i q
      refine .same g i fun l hm => ?_
      rw [List.mem_singleton.mp hm]
      exact syncBy_ok g hx i (of_decide_eq_true (Bool.and_eq_true_iff.mp q).1) hs hne (.inl rfl)
    · exact .same g i fun l hm => by cases hm
  | synced p =>
    show Step M G dst (if h.leadsBy e then h.onTook src p else (h, []))
    split
    · rename_i q
      exact onTook_ok g hx i q hs b
    · exact .same g i fun l hm => by cases hm
  | propose prior place en => exact onPropose_ok g hx i hs hne b.1 b.2.1 b.2.2
  | took p =>
    show Step M G dst (if h.leadsBy e && dhas h.taken src then h.onTook src p else (h, []))
    split
    · rename_i q
      exact onTook_ok g hx i (Bool.and_eq_true_iff.mp q).1 hs b
    · exact .same g i fun l hm => by cases hm
  | done p => exact onDone_ok g hx i hne b.2
theorem chain_ok (g : GInv M G) (hx : x ∈ M) (i : HInv M G x h) (hr : h.role = .leads) {o : Nat} (hoM : o ∈ M) (hox : o ≠ x) : ∀ (A B : Row) (prior : Place), h.row = A ++ B → (∀ t ∈ A, Ple t.1 prior) → (∀ t ∈ B, Plt prior t.1) → ∀ l ∈ h.chain o prior B, LInv M G l
  | _, [], _, _, _, _, l, hl => by cases hl
  | A, t :: B, prior, e, hA, hB, l, hl => by
    obtain ⟨h1, h2, _⟩ := i.head hr
    have hs : Sorted (A ++ t :: B) := by rw [← e]; exact i.srt g
    unfold House.chain at hl
    rcases List.mem_cons.mp hl with hl | hl
    · rw [hl]
      exact mk_l i.nm hx hoM hox ⟨h1, hB t List.mem_cons_self, A, B, by rw [← h2, e], hA⟩
    · have s2 := (List.pairwise_append.mp hs).2.1
      refine chain_ok g hx i hr hoM hox (A ++ [t]) B t.1 (by rw [e]; simp) (fun u hu => ?_) (fun u hu => (List.pairwise_cons.mp s2).1 u hu) l hl
      rcases List.mem_append.mp hu with hu | hu
      · exact ((List.pairwise_append.mp hs).2.2 u hu t List.mem_cons_self).le
      · rw [List.mem_singleton.mp hu]
        exact Ple.refl _
theorem beat_ok (g : GInv M G) (hx : x ∈ M) (i : HInv M G x h) : Step M G x h.beat := by
  unfold House.beat
  split
  · rename_i hr
    have i1 : HInv M G x { h with clock := h.clock + 1 } := {
      nm := i.nm, mem := i.mem, ep := i.ep, row := i.row, ini := i.ini, led := i.led, head := i.head, frE := i.frE, frB := i.frB, vB := i.vB, lB := i.lB, cB := i.cB, cand := i.cand, hd := i.hd, tak := i.tak, dn := i.dn }
    refine .same g i1 fun l hl => ?_
    obtain ⟨o, ho, hm⟩ := List.mem_flatMap.mp hl
    obtain ⟨oM, ox⟩ := mem_others i1 ho
    obtain ⟨h1, h2, _⟩ := i1.head hr
    unfold House.beatFor at hm
    split at hm
    · rw [List.mem_singleton.mp hm]
      exact mk_l i.nm hx oM ox h1
    · split at hm
      · rw [List.mem_singleton.mp hm]
        exact syncFor_ok g hx i1 hr oM ox
      · rename_i p _
        rcases List.mem_append.mp hm with hm | hm
        · exact chain_ok g hx i1 hr oM ox (upTo h.row p) (behind h.row p) p (cut p (i1.srt g)).symm (fun t ht => (mem_upTo.mp ht).2) (fun t ht => (mem_behind.mp ht).2) l hm
        · rw [List.mem_singleton.mp hm]
          refine mk_l i.nm hx oM ox ⟨h1, ?_⟩
          have := i1.dn
          rw [h2] at this
          exact this
  · exact .same g i fun l hl => by cases hl
end
end Zab

set_option linter.all false
/-! Sizes: what the walk asks of lengths and numbers; the world; the law's looks. -/
namespace Zab
def SzP (D : Nat) (p : Place) : Prop := p.1 ≤ D ∧ p.2 ≤ D
def RowSz (D : Nat) (r : Row) : Prop := r.length ≤ D ∧ ∀ t ∈ r, SzP D t.1 ∧ 1 ≤ t.2.2 ∧ t.2.2 ≤ D
def BSz (D : Nat) : Body → Prop
  | .seek ep la => ep ≤ D ∧ SzP D la
  | .promise la => SzP D la
  | .lead => True
  | .sync way base things dn => way ≤ 2 ∧ SzP D base ∧ SzP D dn ∧ RowSz D things ∧ Sorted things ∧ ∀ t ∈ things, Plt base t.1
  | .lack => True
  | .synced p => SzP D p
  | .propose prior place en => SzP D prior ∧ SzP D place ∧ Plt prior place ∧ 1 ≤ en.2 ∧ en.2 ≤ D
  | .took p => SzP D p
  | .done p => SzP D p
structure LSz (M : List Nat) (D : Nat) (l : Letter) : Prop where
  src : l.src ∈ M
  dst : l.dst ∈ M
  ne : l.src ≠ l.dst
  e : l.e ≤ D
  body : BSz D l.body
structure DSz (M : List Nat) (D : Nat) (d : Dic) : Prop where
  nd : (keys d).Nodup
  mem : ∀ k ∈ d, k.1 ∈ M ∧ SzP D k.2
structure HSz (M : List Nat) (D : Nat) (h : House) : Prop where
  nm : h.nm ∈ M
  mem : h.mem = M
  pr : h.promised ≤ D
  ep : h.epoch ≤ D
  row : RowSz D h.row
  srt : Sorted h.row
  done : SzP D h.done
  prs : DSz M D h.promises
  tks : DSz M D h.taken
theorem SzP.mono {D E : Nat} {p : Place} (h : SzP D p) (k : D ≤ E) : SzP E p := by unfold SzP at *; omega
theorem SzP.zero (D : Nat) : SzP D (0, 0) := ⟨Nat.zero_le _, Nat.zero_le _⟩
theorem RowSz.mono {D E : Nat} {r : Row} (h : RowSz D r) (k : D ≤ E) : RowSz E r := ⟨Nat.le_trans h.1 k, fun t ht => ⟨(h.2 t ht).1.mono k, (h.2 t ht).2.1, Nat.le_trans (h.2 t ht).2.2 k⟩⟩
theorem RowSz.sub {D : Nat} {r s : Row} (h : RowSz D r) (k : s.Sublist r) : RowSz D s := ⟨Nat.le_trans k.length_le h.1, fun t ht => h.2 t (k.subset ht)⟩
theorem RowSz.last {D : Nat} {r : Row} (h : RowSz D r) : SzP D (last r) := by
  rcases row_cases r with rfl | ⟨a, t, rfl⟩
  · exact SzP.zero D
  · rw [last_snoc]; exact (h.2 t (by simp)).1
theorem BSz.mono {D E : Nat} {b : Body} (h : BSz D b) (k : D ≤ E) : BSz E b := by
  cases b with
  | seek ep la => exact ⟨Nat.le_trans h.1 k, SzP.mono h.2 k⟩
  | promise la => exact SzP.mono h k
  | lead => trivial
  | sync way base things dn => exact ⟨h.1, h.2.1.mono k, h.2.2.1.mono k, h.2.2.2.1.mono k, h.2.2.2.2⟩
  | lack => trivial
  | synced p => exact SzP.mono h k
  | propose prior place en => exact ⟨h.1.mono k, h.2.1.mono k, h.2.2.1, h.2.2.2.1, Nat.le_trans h.2.2.2.2 k⟩
  | took p => exact SzP.mono h k
  | done p => exact SzP.mono h k
theorem LSz.mono {M : List Nat} {D E : Nat} {l : Letter} (h : LSz M D l) (k : D ≤ E) : LSz M E l := ⟨h.src, h.dst, h.ne, Nat.le_trans h.e k, h.body.mono k⟩
theorem DSz.mono {M : List Nat} {D E : Nat} {d : Dic} (h : DSz M D d) (k : D ≤ E) : DSz M E d := ⟨h.nd, fun x hx => ⟨(h.mem x hx).1, (h.mem x hx).2.mono k⟩⟩
theorem DSz.nil (M : List Nat) (D : Nat) : DSz M D [] := ⟨List.nodup_nil, fun k hk => by cases hk⟩
theorem DSz.one {M : List Nat} {D k : Nat} {p : Place} (hk : k ∈ M) (hp : SzP D p) : DSz M D [(k, p)] := ⟨List.nodup_cons.mpr ⟨List.not_mem_nil, List.nodup_nil⟩, fun x hx => by rw [List.mem_singleton.mp hx]; exact ⟨hk, hp⟩⟩
theorem DSz.put {M : List Nat} {D k : Nat} {d : Dic} {p : Place} (h : DSz M D d) (hk : k ∈ M) (hp : SzP D p) : DSz M D (dput d k p) := ⟨nodup_dput h.nd, fun x hx => by
  rcases mem_dput' hx with z | z
  · rw [z]; exact ⟨hk, hp⟩
  · exact h.mem x z⟩
theorem DSz.del {M : List Nat} {D k : Nat} {d : Dic} (h : DSz M D d) : DSz M D (ddel d k) := ⟨nodup_ddel h.nd, fun x hx => h.mem x (mem_ddel hx)⟩
theorem DSz.len {M : List Nat} {D : Nat} {d : Dic} (h : DSz M D d) : d.length ≤ M.length := by
  have := length_le_of_sub h.nd (m := M) fun x hx => by
    obtain ⟨k, hk, rfl⟩ := List.mem_map.mp hx
    exact (h.mem k hk).1
  unfold keys at this
  rw [List.length_map] at this
  exact this
theorem DSz.get {M : List Nat} {D k : Nat} {d : Dic} (h : DSz M D d) : SzP D ((dget d k).getD (0, 0)) := by
  cases c : dget d k with
  | none => exact SzP.zero D
  | some v => exact (h.mem _ (dget_mem c)).2
theorem HSz.mono {M : List Nat} {D E : Nat} {h : House} (i : HSz M D h) (k : D ≤ E) : HSz M E h :=
  ⟨i.nm, i.mem, Nat.le_trans i.pr k, Nat.le_trans i.ep k, i.row.mono k, i.srt, i.done.mono k, i.prs.mono k, i.tks.mono k⟩
theorem SzP.max {D : Nat} {a b : Place} (h : SzP D a) (k : SzP D b) : SzP D (pmax a b) := by unfold pmax; split <;> assumption
theorem SzP.min {D : Nat} {a b : Place} (h : SzP D a) (k : SzP D b) : SzP D (pmin a b) := by unfold pmin; split <;> assumption
/-- what is known of a row by its epoch -/
def RowPre (D E : Nat) (r : Row) : Prop := r.length ≤ D ∧ ∀ t ∈ r, t.1.1 ≤ E ∧ t.1.2 ≤ D ∧ t.2.2 ≤ D ∧ 1 ≤ t.2.2
theorem RowPre.sz {D E : Nat} {r : Row} (h : RowPre D E r) (k : E ≤ D) : RowSz D r := ⟨h.1, fun t ht => by
  obtain ⟨a, b, c, d⟩ := h.2 t ht
  exact ⟨⟨Nat.le_trans a k, b⟩, d, c⟩⟩
/-- what a deed gives: sizes, letters, how much fresh grows, how many letters -/
def Out (M : List Nat) (D : Nat) (h : House) (r : House × List Letter) : Prop := HSz M D r.1 ∧ (∀ l ∈ r.2, LSz M D l) ∧ r.1.fresh ≤ h.fresh + r.1.row.length ∧ r.2.length ≤ M.length * (D + 2)
section
variable {M : List Nat} {D : Nat} {h : House}
theorem HSz.standDown (i : HSz M D h) : HSz M D h.standDown := ⟨i.nm, i.mem, i.pr, i.ep, i.row, i.srt, i.done, .nil M D, .nil M D⟩
theorem HSz.follow (i : HSz M D h) (o : Nat) : HSz M D (h.follow o) := by
  unfold House.follow
  split
  · exact ⟨i.nm, i.mem, i.pr, i.ep, i.row, i.srt, i.done, i.prs, i.tks⟩
  · exact ⟨i.nm, i.mem, i.pr, i.ep, i.row, i.srt, i.done, .nil M D, .nil M D⟩
theorem HSz.goOnTo (i : HSz M D h) {p : Place} (hp : SzP D p) : HSz M D (h.goOnTo p) := ⟨i.nm, i.mem, i.pr, i.ep, i.row, i.srt, i.done.max hp, i.prs, i.tks⟩
theorem goOnTo_fresh (p : Place) : (h.goOnTo p).fresh ≤ h.fresh + h.row.length := by
  show h.fresh + _ ≤ _
  have := List.length_filter_le (fun t : Thing => decide (Plt h.done t.1) && decide (Ple t.1 p)) h.row
  omega
theorem HSz.other (i : HSz M D h) {o : Nat} (ho : o ∈ h.others) : o ∈ M ∧ h.nm ≠ o := by
  unfold House.others at ho
  obtain ⟨a, b⟩ := List.mem_filter.mp ho
  rw [i.mem] at a
  exact ⟨a, fun q => of_decide_eq_true b q.symm⟩
theorem HSz.nothers (i : HSz M D h) : h.others.length + 1 ≤ M.length := by
  have hn : h.others.length < h.mem.length := by
    unfold House.others
    apply Nat.lt_of_le_of_ne (List.length_filter_le _ _)
    intro q
    have := List.filter_eq_self.mp ((List.filter_sublist (l := h.mem) (p := fun o => decide (o ≠ h.nm))).eq_of_length q)
    have z := this h.nm (by rw [i.mem]; exact i.nm)
    simp at z
  rw [i.mem] at hn
  omega
theorem look_sz (i : HSz M D h) : HSz M D h.lookDone.1 ∧ (∀ l ∈ h.lookDone.2, LSz M D l) ∧ h.lookDone.1.fresh ≤ h.fresh + h.row.length ∧ h.lookDone.2.length ≤ h.others.length ∧ h.lookDone.1.row = h.row := by
  unfold House.lookDone
  split
  · cases e : h.doneNew.getLast? with
    | none => exact ⟨i, (fun l hl => by cases hl), Nat.le_add_right _ _, Nat.zero_le _, rfl⟩
    | some p =>
      have hp := (List.mem_filter.mp (List.mem_of_getLast? e)).1
      obtain ⟨t, ht, rfl⟩ := List.mem_map.mp hp
      have hs := (i.row.2 t ht).1
      refine ⟨i.goOnTo hs, fun l hl => ?_, goOnTo_fresh _, ?_, rfl⟩
      · obtain ⟨o, ho, rfl⟩ := List.mem_map.mp hl
        obtain ⟨a, b⟩ := i.other (List.mem_filter.mp ho).1
        exact ⟨i.nm, a, b, i.ep, hs⟩
      · show (List.map _ _).length ≤ _
        rw [List.length_map]
        exact List.length_filter_le _ _
  · exact ⟨i, (fun l hl => by cases hl), Nat.le_add_right _ _, Nat.zero_le _, rfl⟩
theorem behind_srt (i : HSz M D h) (p : Place) : RowSz D (behind h.row p) ∧ Sorted (behind h.row p) ∧ ∀ t ∈ behind h.row p, Plt p t.1 :=
  ⟨i.row.sub List.filter_sublist, List.Pairwise.sublist List.filter_sublist i.srt, fun t ht => (mem_behind.mp ht).2⟩
theorem syncBy_sz (i : HSz M D h) {o way : Nat} {base : Place} (ho : o ∈ M) (hn : h.nm ≠ o) (hw : way ≤ 2) (hb : SzP D base) : LSz M D (h.syncBy o way base) :=
  ⟨i.nm, ho, hn, i.ep, hw, hb, i.done, behind_srt i base⟩
theorem syncFor_sz (i : HSz M D h) {o : Nat} (ho : o ∈ M) (hn : h.nm ≠ o) : LSz M D (h.syncFor o) := by
  unfold House.syncFor
  simp only
  split
  · exact syncBy_sz i ho hn (by omega) i.prs.get
  · split
    · rename_i b e
      obtain ⟨t, ht, rfl⟩ := List.mem_map.mp (List.mem_filter.mp (List.mem_of_getLast? e)).1
      exact syncBy_sz i ho hn (by omega) (i.row.2 t ht).1
    · exact syncBy_sz i ho hn (by omega) (SzP.zero D)
theorem one_le (i : HSz M D h) : 1 ≤ M.length * (D + 2) := by
  have h1 : 1 ≤ M.length := List.length_pos_of_mem i.nm
  exact Nat.le_trans (by omega) (Nat.le_mul_of_pos_left (D + 2) h1)
theorem two_le {a : Nat} (i : HSz M D h) (ha : a ≤ 2 * h.others.length) : a ≤ M.length * (D + 2) := by
  have h1 := i.nothers
  have h2 : M.length * 2 ≤ M.length * (D + 2) := Nat.mul_le_mul_left _ (by omega)
  omega
theorem lead_sz (i : HSz M D h) : Out M D h h.lead := by
  let h1 : House := { h with role := .leads, head := some h.nm, epoch := h.promised, taken := [(h.nm, h.lst)] }
  have i1 : HSz M D h1 := ⟨i.nm, i.mem, i.pr, i.pr, i.row, i.srt, i.done, i.prs, .one i.nm i.row.last⟩
  obtain ⟨a, b, c, d, f⟩ := look_sz i1
  refine ⟨a, fun l hl => ?_, ?_, ?_⟩
  · have hl' : l ∈ ((h1.others.filter fun o => dhas h1.promises o).map h1.syncFor) ++ h1.lookDone.2 := hl
    rcases List.mem_append.mp hl' with hm | hm
    · obtain ⟨o, ho, rfl⟩ := List.mem_map.mp hm
      obtain ⟨p, q⟩ := i1.other (List.mem_filter.mp ho).1
      exact syncFor_sz i1 p q
    · exact b l hm
  · show h1.lookDone.1.fresh ≤ h.fresh + h1.lookDone.1.row.length
    rw [f]
    exact c
  · refine two_le i1 ?_
    show (((h1.others.filter fun o => dhas h1.promises o).map h1.syncFor) ++ h1.lookDone.2).length ≤ _
    rw [List.length_append, List.length_map]
    have := List.length_filter_le (fun o => dhas h1.promises o) h1.others
    omega
theorem seek_sz (i : HSz M D h) (hp : h.promised + 1 ≤ D) : Out M D h h.seek := by
  let h2 : House := { h.standDown with promised := h.promised + 1, sought := some (h.promised + 1), promises := [(h.nm, h.lst)] }
  have i2 : HSz M D h2 := ⟨i.nm, i.mem, hp, i.ep, i.row, i.srt, i.done, .one i.nm i.row.last, .nil M D⟩
  have e1 : h.seek = if most h.mem.length = 1 then h2.lead else (h2, h2.others.map fun o => ⟨h.nm, o, h.promised + 1, .seek h.epoch h.lst⟩) := rfl
  rw [e1]
  split
  · exact lead_sz i2
  · refine ⟨i2, fun l hl => ?_, Nat.le_add_right _ _, ?_⟩
    · obtain ⟨o, ho, rfl⟩ := List.mem_map.mp hl
      obtain ⟨p, q⟩ := i2.other ho
      exact ⟨i.nm, p, q, hp, i.ep, i.row.last⟩
    · refine two_le i2 ?_
      show (List.map _ _).length ≤ _
      rw [List.length_map]
      omega
theorem put_sz (i : HSz M D h) {en : Ent} (h1 : 1 ≤ en.2) (h2 : en.2 ≤ D) (hr0 : RowPre D (h.put en).1.epoch (h.put en).1.row) (hs : Sorted (h.put en).1.row) : Out M D h (h.put en) := by
  let place : Place := (h.epoch, if h.lst.1 = h.epoch then h.lst.2 + 1 else 1)
  let k : House := { h with row := h.row ++ [(place, en)], taken := dput h.taken h.nm place }
  have er : (h.put en).1.row = k.row := by
    show k.lookDone.1.row = k.row
    unfold House.lookDone
    split
    · cases k.doneNew.getLast? <;> rfl
    · rfl
  have ee : (h.put en).1.epoch = k.epoch := by
    show k.lookDone.1.epoch = k.epoch
    unfold House.lookDone
    split
    · cases k.doneNew.getLast? <;> rfl
    · rfl
  rw [er] at hr0 hs
  rw [ee] at hr0
  have hr := hr0.sz (show k.epoch ≤ D from i.ep)
  have hpl : SzP D place := (hr.2 (place, en) (by simp [k])).1
  have ik : HSz M D k := ⟨i.nm, i.mem, i.pr, i.ep, hr, hs, i.done, i.prs, i.tks.put i.nm hpl⟩
  obtain ⟨a, b, c, d, f⟩ := look_sz ik
  have hlt : Plt h.lst place := by
    rcases row_cases h.row with z | ⟨r, t, z⟩
    · have z2 : h.lst = (0, 0) := by unfold House.lst; rw [z]; rfl
      have p1 : place = (h.epoch, if h.lst.1 = h.epoch then h.lst.2 + 1 else 1) := rfl
      rw [z2] at p1 ⊢
      rw [p1]
      unfold Plt
      simp only
      by_cases q : 0 = h.epoch
      · right
        rw [if_pos q]
        omega
      · left
        omega
    · have z2 : h.lst = t.1 := by unfold House.lst; rw [z, last_snoc]
      rw [z2]
      have hs' : Sorted (h.row ++ [(place, en)]) := hs
      exact (List.pairwise_append.mp hs').2.2 t (by rw [z]; simp) (place, en) (List.mem_singleton.mpr rfl)
  refine ⟨a, fun l hl => ?_, ?_, ?_⟩
  · have hl' : l ∈ ((k.others.filter fun o => dhas k.taken o).map fun o => (⟨h.nm, o, h.epoch, .propose h.lst place en⟩ : Letter)) ++ k.lookDone.2 := hl
    rcases List.mem_append.mp hl' with hm | hm
    · obtain ⟨o, ho, rfl⟩ := List.mem_map.mp hm
      obtain ⟨p, q⟩ := ik.other (List.mem_filter.mp ho).1
      exact ⟨i.nm, p, q, i.ep, i.row.last, hpl, hlt, h1, h2⟩
    · exact b l hm
  · show k.lookDone.1.fresh ≤ h.fresh + k.lookDone.1.row.length
    rw [f]
    exact c
  · refine two_le ik ?_
    show (((k.others.filter fun o => dhas k.taken o).map fun o => (⟨h.nm, o, h.epoch, .propose h.lst place en⟩ : Letter)) ++ k.lookDone.2).length ≤ _
    rw [List.length_append, List.length_map]
    have := List.length_filter_le (fun o => dhas k.taken o) k.others
    omega
theorem Out.none (i : HSz M D h) {k : House} (ik : HSz M D k) (hf : k.fresh ≤ h.fresh + k.row.length) : Out M D h (k, []) := ⟨ik, (fun l hl => by cases hl), hf, Nat.zero_le _⟩
theorem Out.one (i : HSz M D h) {k : House} (ik : HSz M D k) (hf : k.fresh ≤ h.fresh + k.row.length) {l : Letter} (hl : LSz M D l) : Out M D h (k, [l]) := ⟨ik, fun l' hm => by rw [List.mem_singleton.mp hm]; exact hl, hf, one_le i⟩
theorem follow_fresh (o : Nat) : (h.follow o).fresh = h.fresh ∧ (h.follow o).row = h.row := by
  obtain ⟨a, _, _, _, _, _, f⟩ := follow_row (h := h) o
  exact ⟨f, a⟩
theorem take_sz (i : HSz M D h) {l : Letter} (hl : LSz M D l) (hd : l.dst = h.nm) (hr : RowPre D (h.take l).1.epoch (h.take l).1.row) (hs : Sorted (h.take l).1.row) : Out M D h (h.take l) := by
  obtain ⟨src, dst, e, body⟩ := l
  have hd : dst = h.nm := hd
  subst hd
  have hsrc : src ∈ M := hl.src
  have hne : h.nm ≠ src := fun q => hl.ne q.symm
  have he : e ≤ D := hl.e
  have b := hl.body
  have mkl : ∀ {bd : Body}, BSz D bd → LSz M D ⟨h.nm, src, e, bd⟩ := fun hb => ⟨i.nm, hsrc, hne, he, hb⟩
  have triv : h.fresh ≤ h.fresh + h.row.length := Nat.le_add_right _ _
  cases body with
  | seek ep la =>
    show Out M D h (h.onSeek src e ep la)
    unfold House.onSeek
    split
    · exact .none i i triv
    · have i1 : HSz M D { h.standDown with promised := e } := ⟨i.nm, i.mem, he, i.ep, i.row, i.srt, i.done, .nil M D, .nil M D⟩
      simp only
      split
      · exact .one i i1 triv (mkl i.row.last)
      · exact .none i i1 triv
  | promise la =>
    show Out M D h (h.onPromise src e la)
    unfold House.onPromise
    split
    · have i1 : HSz M D { h with promises := dput h.promises src la, taken := ddel h.taken src } := ⟨i.nm, i.mem, i.pr, i.ep, i.row, i.srt, i.done, i.prs.put hsrc b, i.tks.del⟩
      exact .one i i1 triv (syncFor_sz i1 hsrc hne)
    · split
      · exact .none i i triv
      · have i1 : HSz M D { h with promises := dput h.promises src la } := ⟨i.nm, i.mem, i.pr, i.ep, i.row, i.srt, i.done, i.prs.put hsrc b, i.tks⟩
        simp only
        split
        · exact lead_sz i1
        · exact .none i i1 triv
  | lead =>
    show Out M D h (h.onLead src e)
    unfold House.onLead
    split
    · exact .none i i triv
    · have i1 : HSz M D { h.standDown with promised := e } := ⟨i.nm, i.mem, he, i.ep, i.row, i.srt, i.done, .nil M D, .nil M D⟩
      exact .one i i1 triv (mkl i.row.last)
  | sync way base things dn =>
    have hr' : RowPre D (h.onSync src e base things dn).1.epoch (h.onSync src e base things dn).1.row := hr
    have hs' : Sorted (h.onSync src e base things dn).1.row := hs
    show Out M D h (h.onSync src e base things dn)
    unfold House.onSync at hr' hs' ⊢
    split
    · rename_i c
      rw [if_pos c] at hr' hs'
      split
      · rename_i c2
        rw [if_pos c2] at hr' hs'
        simp only at hr' hs' ⊢
        let h1 : House := { h with row := upTo h.row base ++ things, epoch := e }
        have e1 : ((h1.follow src).goOnTo (pmin dn (h1.follow src).lst)).row = h1.row := (follow_fresh (h := h1) src).2
        have e2 : ((h1.follow src).goOnTo (pmin dn (h1.follow src).lst)).epoch = e := (follow_row (h := h1) src).2.1
        have hr1 : RowSz D h1.row := by rw [e2] at hr'; rw [← e1]; exact hr'.sz he
        have hs1 : Sorted h1.row := by rw [← e1]; exact hs'
        have i1 : HSz M D h1 := ⟨i.nm, i.mem, i.pr, he, hr1, hs1, i.done, i.prs, i.tks⟩
        have i2 := i1.follow src
        have i3 := i2.goOnTo (b.2.2.1.min i2.row.last)
        refine .one i i3 ?_ (mkl i3.row.last)
        have := goOnTo_fresh (h := h1.follow src) (pmin dn (h1.follow src).lst)
        rw [(follow_fresh (h := h1) src).1] at this
        exact this
      · exact .one i i triv (mkl trivial)
    · split
      · have i1 := i.follow src
        refine .one i i1 ?_ (mkl i1.row.last)
        rw [(follow_fresh src).1]
        exact Nat.le_add_right _ _
      · exact .none i i triv
  | lack =>
    show Out M D h (if h.leadsBy e then (h, [h.syncBy src 2 (0, 0)]) else (h, []))
    split
    · exact .one i i triv (syncBy_sz i hsrc hne (Nat.le_refl 2) (SzP.zero D))
    · exact .none i i triv
  | synced p =>
    show Out M D h (if h.leadsBy e then h.onTook src p else (h, []))
    split
    · have i1 : HSz M D { h with taken := dput h.taken src (pmax ((dget h.taken src).getD (0, 0)) p) } := ⟨i.nm, i.mem, i.pr, i.ep, i.row, i.srt, i.done, i.prs, i.tks.put hsrc (i.tks.get.max b)⟩
      obtain ⟨a1, a2, a3, a4, a5⟩ := look_sz i1
      refine ⟨a1, a2, ?_, two_le i1 (by show _ ≤ _; exact Nat.le_trans a4 (by omega))⟩
      show House.fresh (House.lookDone _).1 ≤ _ + (House.lookDone _).1.row.length
      rw [a5]
      exact a3
    · exact .none i i triv
  | took p =>
    show Out M D h (if h.leadsBy e && dhas h.taken src then h.onTook src p else (h, []))
    split
    · have i1 : HSz M D { h with taken := dput h.taken src (pmax ((dget h.taken src).getD (0, 0)) p) } := ⟨i.nm, i.mem, i.pr, i.ep, i.row, i.srt, i.done, i.prs, i.tks.put hsrc (i.tks.get.max b)⟩
      obtain ⟨a1, a2, a3, a4, a5⟩ := look_sz i1
      refine ⟨a1, a2, ?_, two_le i1 (by show _ ≤ _; exact Nat.le_trans a4 (by omega))⟩
      show House.fresh (House.lookDone _).1 ≤ _ + (House.lookDone _).1.row.length
      rw [a5]
      exact a3
    · exact .none i i triv
  | propose prior place en =>
    have hr' : RowPre D (h.onPropose src e prior place en).1.epoch (h.onPropose src e prior place en).1.row := hr
    have hs' : Sorted (h.onPropose src e prior place en).1.row := hs
    show Out M D h (h.onPropose src e prior place en)
    unfold House.onPropose at hr' hs' ⊢
    split
    · rename_i c
      rw [if_pos c] at hr' hs'
      simp only at hr' hs' ⊢
      have i1 := i.follow src
      have fin : ∀ k : House, HSz M D k → k.fresh = h.fresh → k.nm = h.nm → Out M D h (k, if hasP k.row place then [⟨h.nm, src, e, .took k.lst⟩] else []) := fun k ik hf hn => by
        split
        · exact .one i ik (by rw [hf]; exact Nat.le_add_right _ _) (mkl ik.row.last)
        · exact .none i ik (by rw [hf]; exact Nat.le_add_right _ _)
      by_cases c2 : (h.follow src).lst = prior
      · rw [if_pos c2] at hr' hs' ⊢
        exact fin _ ⟨i1.nm, i1.mem, i1.pr, i1.ep, hr'.sz i1.ep, hs', i1.done, i1.prs, i1.tks⟩ (follow_fresh src).1 (follow_row src).2.2.2.2.1
      · rw [if_neg c2] at hr' hs' ⊢
        exact fin _ i1 (follow_fresh src).1 (follow_row src).2.2.2.2.1
    · exact .none i i triv
  | done p =>
    show Out M D h (h.onDone src e p)
    unfold House.onDone
    split
    · have i1 := i.follow src
      have i2 := i1.goOnTo (SzP.min b i1.row.last)
      refine .none i i2 ?_
      have := goOnTo_fresh (h := h.follow src) (pmin p (h.follow src).lst)
      rw [(follow_fresh src).1] at this
      exact this
    · exact .none i i triv
theorem chain_sz (i : HSz M D h) {o : Nat} (ho : o ∈ M) (hn : h.nm ≠ o) : ∀ (B : Row) (prior : Place), SzP D prior → RowSz D B → Sorted B → (∀ t ∈ B, Plt prior t.1) → (∀ l ∈ h.chain o prior B, LSz M D l) ∧ (h.chain o prior B).length = B.length
  | [], _, _, _, _, _ => ⟨(fun l hl => by cases hl), rfl⟩
  | t :: B, prior, hp, hB, hs, hlt => by
    have ht := hB.2 t List.mem_cons_self
    obtain ⟨s1, s2⟩ := List.pairwise_cons.mp hs
    obtain ⟨a, b⟩ := chain_sz i ho hn B t.1 ht.1 (hB.sub (List.sublist_cons_self t B)) s2 s1
    refine ⟨fun l hl => ?_, ?_⟩
    · unfold House.chain at hl
      rcases List.mem_cons.mp hl with hl | hl
      · rw [hl]
        exact ⟨i.nm, ho, hn, i.ep, hp, ht.1, hlt t List.mem_cons_self, ht.2.1, ht.2.2⟩
      · exact a l hl
    · show (_ :: _).length = _
      rw [List.length_cons, List.length_cons, b]
theorem beatFor_sz (i : HSz M D h) {o : Nat} (ho : o ∈ M) (hn : h.nm ≠ o) : (∀ l ∈ h.beatFor o, LSz M D l) ∧ (h.beatFor o).length ≤ D + 1 := by
  unfold House.beatFor
  split
  · exact ⟨(fun l hl => by rw [List.mem_singleton.mp hl]; exact ⟨i.nm, ho, hn, i.ep, trivial⟩), (by show 1 ≤ D + 1; omega)⟩
  · split
    · exact ⟨(fun l hl => by rw [List.mem_singleton.mp hl]; exact syncFor_sz i ho hn), (by show 1 ≤ D + 1; omega)⟩
    · rename_i p e
      obtain ⟨b1, b2, b3⟩ := behind_srt i p
      obtain ⟨a, b⟩ := chain_sz i ho hn (behind h.row p) p (i.tks.mem _ (dget_mem e)).2 b1 b2 b3
      refine ⟨fun l hl => ?_, ?_⟩
      · rcases List.mem_append.mp hl with hm | hm
        · exact a l hm
        · rw [List.mem_singleton.mp hm]
          exact ⟨i.nm, ho, hn, i.ep, i.done⟩
      · rw [List.length_append, b]
        have := b1.1
        show _ + 1 ≤ _
        omega
theorem flat_len {f : Nat → List Letter} {c : Nat} : ∀ {l : List Nat}, (∀ o ∈ l, (f o).length ≤ c) → (l.flatMap f).length ≤ l.length * c
  | [], _ => Nat.zero_le _
  | a :: l, h => by
    rw [List.flatMap_cons, List.length_append, List.length_cons, Nat.succ_mul]
    have := h a List.mem_cons_self
    have := flat_len (l := l) fun o ho => h o (List.mem_cons_of_mem _ ho)
    omega
theorem beat_sz (i : HSz M D h) : Out M D h h.beat := by
  unfold House.beat
  split
  · let h1 : House := { h with clock := h.clock + 1 }
    have i1 : HSz M D h1 := ⟨i.nm, i.mem, i.pr, i.ep, i.row, i.srt, i.done, i.prs, i.tks⟩
    refine ⟨i1, fun l hl => ?_, Nat.le_add_right _ _, ?_⟩
    · obtain ⟨o, ho, hm⟩ := List.mem_flatMap.mp hl
      obtain ⟨a, b⟩ := i1.other ho
      exact (beatFor_sz i1 a b).1 l hm
    · have k := flat_len (l := h1.others) (f := h1.beatFor) (c := D + 1) fun o ho => by
        obtain ⟨a, b⟩ := i1.other ho
        exact (beatFor_sz i1 a b).2
      refine Nat.le_trans k ?_
      exact Nat.mul_le_mul (by have := i1.nothers; omega) (by omega)
  · exact .none i i (Nat.le_add_right _ _)
end
end Zab

set_option linter.all false
/-! The world of the law: houses, the post, the longest done row; its invariant; the law's looks. -/
namespace Zab
/-- committed in some epoch, or empty -/
def CRow (M : List Nat) (G : Ghost) (r : Row) : Prop := r = [] ∨ ∃ e p, Com M G e p ∧ r = upTo (G.hist e) p
structure World where
  hs : Nat → House
  post : List Letter
  long : Row
structure WInv (M : List Nat) (D st : Nat) (w : World) : Prop where
  ex : ∃ G, GInv M G ∧ G.D = st ∧ (∀ x ∈ M, HInv M G x (w.hs x)) ∧ (∀ l ∈ w.post, LInv M G l) ∧ CRow M G w.long
  hz : ∀ x ∈ M, HSz M D (w.hs x) ∧ (w.hs x).fresh ≤ 1000 * D
  lz : ∀ l ∈ w.post, LSz M D l
  st : st ≤ D
  pz : w.post.length ≤ 4000 * D
section
variable {M : List Nat} {G G' : Ghost} {D st x : Nat} {w : World}
theorem CRow.mono (l : Le x G G') (g' : GInv M G') {r : Row} (h : CRow M G r) : CRow M G' r := by
  rcases h with h | ⟨e, p, h1, h2⟩
  · exact .inl h
  · exact .inr ⟨e, p, h1.mono l, by rw [l.upTo g' h1.1]; exact h2⟩
theorem HInv.pre (g : GInv M G) {h : House} (i : HInv M G x h) {D : Nat} (hD : G.D ≤ D) : RowPre D h.epoch h.row := by
  obtain ⟨a, b⟩ := g.siz h.epoch
  refine ⟨Nat.le_trans i.row.length_le (Nat.le_trans a hD), fun t ht => ?_⟩
  have hm := i.row.subset ht
  obtain ⟨b1, b2, b3⟩ := b t hm
  exact ⟨(g.bnd _ t hm).2, Nat.le_trans b1 hD, Nat.le_trans b2 hD, b3⟩
/-- a deed of a house: take, seek, beat, begin anew, put -/
theorem deed {M : List Nat} {D st st' x : Nat} {w : World} {r : House × List Letter} (W : WInv M D st w) (hM5 : M.length ≤ 5) (hD : D + 1 ≤ 500) (hx : x ∈ M) (hst' : st' ≤ D + 1)
    (hstep : ∀ G, GInv M G → G.D = st → HInv M G x (w.hs x) → (∀ l ∈ w.post, LInv M G l) → ∃ G', Le x G G' ∧ GInv M G' ∧ HInv M G' x r.1 ∧ (∀ l ∈ r.2, LInv M G' l) ∧ G'.D = st')
    (hsz : HSz M (D + 1) (w.hs x) → RowPre (D + 1) r.1.epoch r.1.row → Sorted r.1.row → Out M (D + 1) (w.hs x) r)
    {post' : List Letter} (hp : ∀ l ∈ post', l ∈ w.post ∨ l ∈ r.2) (hpl : post'.length ≤ w.post.length + r.2.length) :
    WInv M (D + 1) st' { w with hs := set1 w.hs x r.1, post := post' } := by
  obtain ⟨G, g, hGD, hH, hL, hC⟩ := W.ex
  obtain ⟨G', hle, g', i', l', hD'⟩ := hstep G g hGD (hH x hx) hL
  obtain ⟨z1, z2⟩ := W.hz x hx
  obtain ⟨o1, o2, o3, o4⟩ := hsz (z1.mono (Nat.le_succ D)) (i'.pre g' (by rw [hD']; exact hst')) (i'.srt g')
  refine ⟨⟨G', g', hD', fun y hy => ?_, fun l hl => ?_, hC.mono hle g'⟩, fun y hy => ?_, fun l hl => ?_, hst', ?_⟩
  · by_cases c : y = x
    · subst c
      show HInv M G' y (set1 w.hs y r.1 y)
      rw [set1_same]
      exact i'
    · show HInv M G' y (set1 w.hs x r.1 y)
      rw [set1_ne c]
      exact (hH y hy).mono hle g g' c
  · rcases hp l hl with h | h
    · exact (hL l h).mono hle g'
    · exact l' l h
  · by_cases c : y = x
    · subst c
      show HSz M (D + 1) (set1 w.hs y r.1 y) ∧ (set1 w.hs y r.1 y).fresh ≤ 1000 * (D + 1)
      rw [set1_same]
      refine ⟨o1, ?_⟩
      have := o1.row.1
      omega
    · show HSz M (D + 1) (set1 w.hs x r.1 y) ∧ (set1 w.hs x r.1 y).fresh ≤ 1000 * (D + 1)
      rw [set1_ne c]
      obtain ⟨a, b⟩ := W.hz y hy
      exact ⟨a.mono (Nat.le_succ D), by omega⟩
  · rcases hp l hl with h | h
    · exact (W.lz l h).mono (Nat.le_succ D)
    · exact o2 l h
  · show post'.length ≤ 4000 * (D + 1)
    have h1 := W.pz
    have h2 : M.length * (D + 1 + 2) ≤ 5 * (D + 1 + 2) := Nat.mul_le_mul_right _ hM5
    omega
theorem take_w (W : WInv M D st w) (hM5 : M.length ≤ 5) (hD : D + 1 ≤ 500) {l : Letter} (hl : l ∈ w.post) {post' : List Letter} (hp : ∀ k ∈ post', k ∈ w.post ∨ k ∈ ((w.hs l.dst).take l).2)
    (hpl : post'.length ≤ w.post.length + ((w.hs l.dst).take l).2.length) : WInv M (D + 1) st { w with hs := set1 w.hs l.dst ((w.hs l.dst).take l).1, post := post' } := by
  have hx := (W.lz l hl).dst
  refine deed W hM5 hD hx (Nat.le_succ_of_le W.st) (fun G g hG i hL => ?_) (fun z hr hs => ?_) hp hpl
  · obtain ⟨G', a, b, c, d, e⟩ := take_ok g hx i (hL l hl) rfl
    exact ⟨G', a, b, c, d, e.trans hG⟩
  · have hn : l.dst = (w.hs l.dst).nm := by
      obtain ⟨G, _, _, hH, _⟩ := W.ex
      exact (hH _ hx).nm.symm
    exact take_sz z ((W.lz l hl).mono (Nat.le_succ D)) hn hr hs
theorem seek_w (W : WInv M D st w) (hM5 : M.length ≤ 5) (hD : D + 1 ≤ 500) (hx : x ∈ M) {post' : List Letter} (hp : ∀ k ∈ post', k ∈ w.post ∨ k ∈ (w.hs x).seek.2)
    (hpl : post'.length ≤ w.post.length + (w.hs x).seek.2.length) : WInv M (D + 1) st { w with hs := set1 w.hs x (w.hs x).seek.1, post := post' } := by
  refine deed W hM5 hD hx (Nat.le_succ_of_le W.st) (fun G g hG i hL => ?_) (fun z hr hs => ?_) hp hpl
  · obtain ⟨G', a, b, c, d, e⟩ := seek_ok g hx i
    exact ⟨G', a, b, c, d, e.trans hG⟩
  · exact seek_sz z (Nat.succ_le_succ (W.hz x hx).1.pr)
theorem beat_w (W : WInv M D st w) (hM5 : M.length ≤ 5) (hD : D + 1 ≤ 500) (hx : x ∈ M) {post' : List Letter} (hp : ∀ k ∈ post', k ∈ w.post ∨ k ∈ (w.hs x).beat.2)
    (hpl : post'.length ≤ w.post.length + (w.hs x).beat.2.length) : WInv M (D + 1) st { w with hs := set1 w.hs x (w.hs x).beat.1, post := post' } := by
  refine deed W hM5 hD hx (Nat.le_succ_of_le W.st) (fun G g hG i hL => ?_) (fun z hr hs => ?_) hp hpl
  · obtain ⟨G', a, b, c, d, e⟩ := beat_ok g hx i
    exact ⟨G', a, b, c, d, e.trans hG⟩
  · exact beat_sz z
theorem put_w (W : WInv M D st w) (hM5 : M.length ≤ 5) (hD : D + 1 ≤ 500) (hx : x ∈ M) (hs : (w.hs x).settled = true) (b : Bool) {post' : List Letter} (hp : ∀ k ∈ post', k ∈ w.post ∨ k ∈ ((w.hs x).put (b, st + 1)).2)
    (hpl : post'.length ≤ w.post.length + ((w.hs x).put (b, st + 1)).2.length) : WInv M (D + 1) (st + 1) { w with hs := set1 w.hs x ((w.hs x).put (b, st + 1)).1, post := post' } := by
  refine deed W hM5 hD hx (Nat.succ_le_succ W.st) (fun G g hG i hL => ?_) (fun z hr hs => ?_) hp hpl
  · obtain ⟨G', a, b, c, d, e⟩ := put_ok g hx i (settled_leads hs) (b, st + 1) (by rw [hG]; exact Nat.le_refl _) (Nat.succ_le_succ (Nat.zero_le st))
    exact ⟨G', a, b, c, d, by rw [e, hG]⟩
  · exact put_sz z (Nat.succ_le_succ (Nat.zero_le st)) (Nat.succ_le_succ W.st) hr hs
theorem anew_w (W : WInv M D st w) (hM5 : M.length ≤ 5) (hD : D + 1 ≤ 500) (hx : x ∈ M) : WInv M (D + 1) st { w with hs := set1 w.hs x (w.hs x).beginAnew } := by
  refine deed (r := ((w.hs x).beginAnew, [])) W hM5 hD hx (Nat.le_succ_of_le W.st) (fun G g hG i hL => ?_) (fun z hr hs => ?_) (fun k hk => .inl hk) (Nat.le_add_right _ _)
  · exact ⟨G, Le.refl x G, g, i.beginAnew, (fun l hl => by cases hl), hG⟩
  · refine Out.none z ⟨z.nm, z.mem, z.pr, z.ep, z.row, z.srt, SzP.zero _, .nil M _, .nil M _⟩ ?_
    show 0 ≤ _
    exact Nat.zero_le _
/-- nothing happens -/
theorem idle_w (W : WInv M D st w) : WInv M (D + 1) st w :=
  ⟨W.ex, fun x hx => ⟨(W.hz x hx).1.mono (Nat.le_succ D), by have := (W.hz x hx).2; omega⟩, fun l hl => (W.lz l hl).mono (Nat.le_succ D), Nat.le_succ_of_le W.st, by have := W.pz; omega⟩
theorem start_w (hM : M.length ≤ 5) : WInv M 0 0 ⟨fun x => first x M, [], []⟩ := by
  refine ⟨⟨⟨fun _ => [], fun _ => [], fun _ => none, fun _ _ => none, fun _ _ => none, fun _ _ => none, 0⟩, ?_, rfl, fun x hx => ?_, (fun l hl => by cases hl), .inl rfl⟩, fun x hx => ⟨?_, Nat.zero_le _⟩, (fun l hl => by cases hl), Nat.le_refl _, Nat.zero_le _⟩
  · exact {
      sorted := fun _ => List.Pairwise.nil
      bnd := fun _ t ht => by cases ht
      ini_pre := fun _ => List.prefix_rfl
      lm := fun _ t ht => by cases ht
      none_ := fun _ _ => ⟨rfl, rfl⟩
      led := fun _ _ h => by cases h
      ci := fun _ _ _ _ h => by cases h
      vote := fun _ _ _ h => by cases h
      siz := fun _ => ⟨Nat.zero_le _, fun t ht => by cases ht⟩ }
  · exact {
      nm := rfl, mem := rfl, ep := Nat.le_refl _, row := List.prefix_rfl, ini := List.prefix_rfl, led := .inl rfl
      head := fun h => by cases h
      frE := fun h => absurd (show 1 ≤ 0 from h) (by decide)
      frB := fun _ _ h => by cases h
      vB := fun _ _ h => by cases h
      lB := fun _ h => by cases h
      cB := fun _ _ h => by cases h
      cand := fun _ h _ => by cases h
      hd := fun _ h _ => by cases h
      tak := fun h => by cases h
      dn := .inl rfl }
  · exact ⟨hx, rfl, Nat.le_refl _, Nat.le_refl _, ⟨Nat.le_refl _, fun t ht => by cases ht⟩, List.Pairwise.nil, SzP.zero 0, .nil M 0, .nil M 0⟩
/-! ### the law's looks -/
theorem done_crow (g : GInv M G) {h : House} (i : HInv M G x h) : CRow M G h.doneRow := by
  unfold House.doneRow
  rcases i.dn with z | ⟨e, h1, h2, h3⟩
  · left
    rw [z]
    refine upTo_none fun t ht => ?_
    have := (g.bnd _ t (i.row.subset ht)).1
    unfold Plt
    simp only
    omega
  · exact .inr ⟨e, h.done, h2, h3⟩
theorem com_led (g : GInv M G) {e : Nat} {p : Place} (c : Com M G e p) : G.ldr e ≠ none := fun q => by
  have := c.1
  rw [(g.none_ e q).1] at this
  cases this
theorem crow_total (g : GInv M G) {a b : Row} (ha : CRow M G a) (hb : CRow M G b) : a <+: b ∨ b <+: a := by
  rcases ha with rfl | ⟨e, p, h1, rfl⟩
  · exact .inl List.nil_prefix
  · rcases hb with rfl | ⟨f, q, k1, rfl⟩
    · exact .inr List.nil_prefix
    · rcases Nat.lt_trichotomy e f with c | c | c
      · exact pre_total ((g.complete (com_led g k1) c h1).trans (g.ini_pre f)) (upTo_pre q (g.sorted f))
      · subst c
        exact pre_total (upTo_pre p (g.sorted e)) (upTo_pre q (g.sorted e))
      · exact pre_total (upTo_pre p (g.sorted e)) ((g.complete (com_led g h1) c k1).trans (g.ini_pre e))
/-- a house's done row and the longest one: one is a beginning of the other -/
theorem right_rows (W : WInv M D st w) (hx : x ∈ M) : (w.hs x).doneRow <+: w.long ∨ w.long <+: (w.hs x).doneRow := by
  obtain ⟨G, g, _, hH, _, hC⟩ := W.ex
  exact crow_total g (done_crow g (hH x hx)) hC
/-- the longest row becomes a done one -/
theorem right_long (W : WInv M D st w) (hx : x ∈ M) : WInv M D st { w with long := (w.hs x).doneRow } := by
  obtain ⟨G, g, hG, hH, hL, hC⟩ := W.ex
  exact ⟨⟨G, g, hG, hH, hL, done_crow g (hH x hx)⟩, W.hz, W.lz, W.st, W.pz⟩
/-- a settled head of the greatest epoch has the longest row -/
theorem right_head (W : WInv M D st w) (hx : x ∈ M) (hs : (w.hs x).settled = true) (hm : ∀ y ∈ M, (w.hs y).promised ≤ (w.hs x).epoch) : w.long <+: (w.hs x).row := by
  obtain ⟨G, g, hG, hH, hL, hC⟩ := W.ex
  have i := hH x hx
  obtain ⟨a, b, _⟩ := i.head (settled_leads hs)
  rcases hC with z | ⟨e, p, h1, h2⟩
  · rw [z]; exact List.nil_prefix
  · rw [h2]
    have he : e ≤ (w.hs x).epoch := by
      obtain ⟨_, S, hS, hf⟩ := h1
      have : ∃ y, y ∈ S := by
        have := hS.2.2
        unfold most at this
        cases S with
        | nil => simp at this
        | cons y _ => exact ⟨y, List.mem_cons_self⟩
      obtain ⟨y, hy⟩ := this
      obtain ⟨q, hq, _⟩ := hf y hy
      have hyM := hS.2.1 y hy
      have k1 := ((hH y hyM).frB e q hq).2
      have k2 := (hH y hyM).ep
      have k3 := hm y hyM
      omega
    rcases Nat.lt_or_ge e (w.hs x).epoch with c | c
    · exact (g.complete (some_ne a) c h1).trans i.ini
    · have : e = (w.hs x).epoch := by omega
      rw [b, this]
      exact upTo_pre p (g.sorted _)
end
end Zab

set_option Elab.async false
set_option linter.all false
set_option maxRecDepth 100000
set_option maxHeartbeats 4000000
/-! The data: places, entries, rows, letters as the model's data; what stands for them in a heap. -/
namespace Wn
open PySem PySem.Spec PyProof.Rows L2
open Zab hiding World Place Row
abbrev Place := Zab.Place
abbrev Row := Zab.Row
abbrev Ex := @Evl.Ex
/-! ### data -/
def nS (n : Nat) : Str := ⟨#[n]⟩
def dN (n : Nat) : PyData := .str (nS n)
def dI (n : Nat) : PyData := .int (n : Int)
def dP (p : Place) : PyData := .tuple [dI p.1, dI p.2]
def whoS (b : Bool) : Str := if b then "bob" else "ann"
def dE (e : Ent) : PyData := .tuple [.str "ask", .str (whoS e.1), dI e.2, .tuple [.str "bring"]]
def dT (t : Thing) : PyData := .tuple [dP t.1, dE t.2]
def dR (r : Row) : PyData := .list (r.map dT)
def dTs (r : Row) : PyData := .tuple (r.map dT)
def wayS : Nat → Str
  | 0 => "more"
  | 1 => "cut"
  | _ => "all"
def wordS : Body → Str
  | .seek _ _ => "seek"
  | .promise _ => "promise"
  | .lead => "lead"
  | .sync _ _ _ _ => "sync"
  | .lack => "lack"
  | .synced _ => "synced"
  | .propose _ _ _ => "propose"
  | .took _ => "took"
  | .done _ => "done"
def dB : Body → List PyData
  | .seek ep la => [dI ep, dP la]
  | .promise la => [dP la]
  | .lead => []
  | .sync way base things dn => [.str (wayS way), dP base, dTs things, dP dn]
  | .lack => []
  | .synced p => [dP p]
  | .propose prior place en => [dP prior, dP place, dE en]
  | .took p => [dP p]
  | .done p => [dP p]
def dL (l : Letter) : PyData := .tuple (.str (wordS l.body) :: dN l.src :: dN l.dst :: dI l.e :: dB l.body)
def NmOk (n : Nat) : Prop := 97 ≤ n ∧ n ≤ 122
structure MOk (M : List Nat) : Prop where
  nm : ∀ x ∈ M, NmOk x
  nd : M.Nodup
  le : M.length ≤ 5
  pos : 1 ≤ M.length
/-! ### equality of data -/
theorem nS_inj {a b : Nat} : nS a = nS b ↔ a = b := by
  constructor
  · intro h
    have h1 : (#[a] : Array Nat) = #[b] := congrArg Str.cps h
    simpa using h1
  · rintro rfl; rfl
theorem eqv_str (a b : Str) : PyData.eqv (.str a) (.str b) = decide (a = b) := by
  simp only [PyData.eqv]
  by_cases h : a = b
  · subst h; simp
  · simp [h]
theorem eqv_int (a b : Int) : PyData.eqv (.int a) (.int b) = decide (a = b) := by
  simp only [PyData.eqv]
  by_cases h : a = b
  · subst h; simp
  · simp [h]
theorem eqv_dI (a b : Nat) : PyData.eqv (dI a) (dI b) = decide (a = b) := by
  unfold dI
  rw [eqv_int]
  by_cases h : a = b
  · subst h; simp
  · rw [decide_eq_false h, decide_eq_false]
    omega
theorem eqv_dN (a b : Nat) : PyData.eqv (dN a) (dN b) = decide (a = b) := by
  unfold dN
  rw [eqv_str]
  by_cases h : a = b
  · subst h; simp
  · rw [decide_eq_false h, decide_eq_false (fun q => h (nS_inj.mp q))]
theorem dec_and {p q r : Prop} [Decidable p] [Decidable q] [Decidable r] (h : r ↔ p ∧ q) : (decide p && decide q) = decide r := by
  by_cases hp : p <;> by_cases hq : q <;> simp [hp, hq, h]
theorem eqv_dP (a b : Place) : PyData.eqv (dP a) (dP b) = decide (a = b) := by
  unfold dP
  simp only [PyData.eqv, PyData.eqvAll, eqv_dI, Bool.and_true]
  exact dec_and ⟨fun h => by rw [h]; exact ⟨rfl, rfl⟩, fun h => Prod.ext h.1 h.2⟩
theorem whoS_inj (a b : Bool) : whoS a = whoS b ↔ a = b := by
  revert a b
  decide +kernel
theorem eqv_dE (a b : Ent) : PyData.eqv (dE a) (dE b) = decide (a = b) := by
  unfold dE
  simp only [PyData.eqv, PyData.eqvAll, eqv_dI, Bool.and_true, eqv_str, beq_self_eq_true, Bool.true_and]
  have e : (whoS a.1 == whoS b.1) = decide (a.1 = b.1) := by
    by_cases h : a.1 = b.1
    · rw [h]; simp
    · rw [decide_eq_false h]
      exact beq_eq_false_iff_ne.mpr fun q => h ((whoS_inj _ _).mp q)
  rw [e]
  exact dec_and ⟨fun h => by rw [h]; exact ⟨rfl, rfl⟩, fun h => Prod.ext h.1 h.2⟩
theorem eqv_dT (a b : Thing) : PyData.eqv (dT a) (dT b) = decide (a = b) := by
  unfold dT
  simp only [PyData.eqv, PyData.eqvAll, eqv_dP, eqv_dE, Bool.and_true]
  exact dec_and ⟨fun h => by rw [h]; exact ⟨rfl, rfl⟩, fun h => Prod.ext h.1 h.2⟩
theorem eqvAll_map {α : Type} [DecidableEq α] (f : α → PyData) (h : ∀ a b, PyData.eqv (f a) (f b) = decide (a = b)) : ∀ (r s : List α), PyData.eqvAll (r.map f) (s.map f) = decide (r = s)
  | [], [] => by simp [PyData.eqvAll]
  | [], _ :: _ => by simp [PyData.eqvAll]
  | _ :: _, [] => by simp [PyData.eqvAll]
  | a :: r, b :: s => by
    simp only [List.map_cons, PyData.eqvAll, h, eqvAll_map f h r s]
    exact dec_and (by rw [List.cons.injEq])
theorem eqv_dR (r s : Row) : PyData.eqv (dR r) (dR s) = decide (r = s) := by
  unfold dR
  simp only [PyData.eqv]
  exact eqvAll_map dT eqv_dT r s
theorem eqv_nil {l : List PyData} : PyData.eqv (.list l) (.list []) = l.isEmpty := by
  cases l <;> simp [PyData.eqv, PyData.eqvAll]
/-! ### what the deep comparisons ask of data -/
structure Shp (k : Nat) (d : PyData) : Prop where
  c : d.canLay0 = true
  d : d.depth ≤ k
theorem Shp.shaped {k : Nat} {d : PyData} (h : Shp k d) (hk : k ≤ 64 := by decide) : SeqAt.shaped d = true := by
  unfold SeqAt.shaped
  rw [h.c, decide_eq_true (Nat.le_trans h.d hk)]
  rfl
theorem Shp.mono {j k : Nat} {d : PyData} (h : Shp j d) (hk : j ≤ k) : Shp k d := ⟨h.c, Nat.le_trans h.d hk⟩
structure ShpA (k : Nat) (ds : List PyData) : Prop where
  c : PyData.canLayAll0 ds = true
  d : PyData.depthAll ds ≤ k
theorem ShpA.nil (k : Nat) : ShpA k [] := ⟨by simp [PyData.canLayAll0], by simp [PyData.depthAll]⟩
theorem ShpA.cons {k : Nat} {d : PyData} {ds : List PyData} (h : Shp k d) (t : ShpA k ds) : ShpA k (d :: ds) := by
  refine ⟨?_, ?_⟩
  · simp only [PyData.canLayAll0, h.c, t.c, Bool.and_true]
  · simp only [PyData.depthAll]
    exact Nat.max_le.mpr ⟨h.d, t.d⟩
theorem ShpA.map {α : Type} {k : Nat} {f : α → PyData} : ∀ {l : List α}, (∀ a ∈ l, Shp k (f a)) → ShpA k (l.map f)
  | [], _ => .nil k
  | a :: l, h => .cons (h a List.mem_cons_self) (ShpA.map fun b hb => h b (List.mem_cons_of_mem _ hb))
theorem ShpA.tup {k : Nat} {ds : List PyData} (h : ShpA k ds) : Shp (k + 1) (.tuple ds) := ⟨by simp only [PyData.canLay0, h.c], by simp only [PyData.depth]; exact Nat.succ_le_succ h.d⟩
theorem ShpA.lst {k : Nat} {ds : List PyData} (h : ShpA k ds) : Shp (k + 1) (.list ds) := ⟨by simp only [PyData.canLay0, h.c], by simp only [PyData.depth]; exact Nat.succ_le_succ h.d⟩
theorem shp_int (k : Nat) (i : Int) : Shp k (.int i) := ⟨by simp only [PyData.canLay0], by simp [PyData.depth]⟩
theorem shp_non (k : Nat) : Shp k .none := ⟨by simp only [PyData.canLay0], by simp [PyData.depth]⟩
theorem shp_str (k : Nat) {x : Str} (h : PyData.strOk x = true) : Shp k (.str x) := ⟨by simp only [PyData.canLay0]; exact h, by simp [PyData.depth]⟩
theorem shp_dI (k n : Nat) : Shp k (dI n) := shp_int k n
theorem shp_dN (k : Nat) {n : Nat} (h : NmOk n) : Shp k (dN n) := shp_str k (by
  unfold PyData.strOk nS
  have : n < 0x110000 := by have := h.2; omega
  simp [this])
theorem shp_dP (p : Place) : Shp 1 (dP p) := (ShpA.cons (shp_dI 0 _) (.cons (shp_dI 0 _) (.nil 0))).tup
theorem shp_dE (e : Ent) : Shp 2 (dE e) := by
  have h1 : ∀ b, PyData.strOk (whoS b) = true := by decide +kernel
  exact (ShpA.cons (shp_str 1 (by decide +kernel)) (.cons (shp_str 1 (h1 _)) (.cons (shp_dI 1 _) (.cons (ShpA.cons (shp_str 0 (by decide +kernel)) (.nil 0)).tup (.nil 1))))).tup
theorem shp_dT (t : Thing) : Shp 3 (dT t) := (ShpA.cons ((shp_dP _).mono (by omega)) (.cons (shp_dE _) (.nil 2))).tup
theorem shp_dR (r : Row) : Shp 4 (dR r) := (ShpA.map fun t _ => shp_dT t).lst
theorem shp_dTs (r : Row) : Shp 4 (dTs r) := (ShpA.map fun t _ => shp_dT t).tup
theorem shp_wayS (k w : Nat) : Shp k (.str (wayS w)) := by
  match w with
  | 0 => exact shp_str k (by decide +kernel)
  | 1 => exact shp_str k (by decide +kernel)
  | n + 2 => exact shp_str k (show PyData.strOk "all" = true by decide +kernel)
theorem shp_dB (b : Body) : ShpA 4 (dB b) := by
  have p : ∀ q, Shp 4 (dP q) := fun q => (shp_dP q).mono (by omega)
  cases b with
  | seek ep la => exact .cons (shp_dI 4 _) (.cons (p _) (.nil 4))
  | promise la => exact .cons (p _) (.nil 4)
  | lead => exact .nil 4
  | sync way base things dn => exact .cons (shp_wayS 4 _) (.cons (p _) (.cons (shp_dTs _) (.cons (p _) (.nil 4))))
  | lack => exact .nil 4
  | synced q => exact .cons (p _) (.nil 4)
  | propose prior place en => exact .cons (p _) (.cons (p _) (.cons ((shp_dE _).mono (by omega)) (.nil 4)))
  | took q => exact .cons (p _) (.nil 4)
  | done q => exact .cons (p _) (.nil 4)
theorem shp_word (k : Nat) (b : Body) : Shp k (.str (wordS b)) := by
  have h : ∀ x ∈ ([("seek" : Str), "promise", "lead", "sync", "lack", "synced", "propose", "took", "done"] : List Str), PyData.strOk x = true := by decide +kernel
  exact shp_str k (h _ (by cases b <;> simp [wordS]))
theorem shp_dL {l : Letter} (h1 : NmOk l.src) (h2 : NmOk l.dst) : Shp 5 (dL l) := (ShpA.cons (shp_word 4 _) (.cons (shp_dN 4 h1) (.cons (shp_dN 4 h2) (.cons (shp_dI 4 _) (shp_dB _))))).tup
/-! ### what stands for data in a heap -/
section
variable {K : PySem.W.Frag} {H H' : Hp}
mutual
theorem dp_ex (e : Ex H H') : ∀ {d : PyData} {v : V}, Dp K H v d → Dp K H' v d
  | .none, _, h => by cases h; exact .non
  | .bool b, _, h => by cases h; exact .bl b
  | .int i, _, h => by cases h; exact .int i
  | .str x, _, h => by cases h; exact .str x
  | .list ds, _, h => by cases h with | lst h1 h2 => exact .lst (Evl.ex_l e h1) (dpA_ex e h2)
  | .tuple ds, _, h => by cases h with | tup h1 h2 => exact .tup (Evl.ex_t e h1) (dpA_ex e h2)
  | .dict _, _, h => by cases h
theorem dpA_ex (e : Ex H H') : ∀ {ds : List PyData} {vs : List V}, DpAll K H vs ds → DpAll K H' vs ds
  | [], _, h => by cases h; exact .nil
  | d :: ds, _, h => by cases h with | cons h1 h2 => exact .cons (dp_ex e h1) (dpA_ex e h2)
end
/-- data without lists -/
inductive Imm : PyData → Prop
  | non : Imm .none
  | bl (b : Bool) : Imm (.bool b)
  | int (i : Int) : Imm (.int i)
  | str (x : Str) : Imm (.str x)
  | tup {ds : List PyData} : (∀ d ∈ ds, Imm d) → Imm (.tuple ds)
/-- all tuples stay -/
def Tups (H H' : Hp) : Prop := ∀ b xs, H b = some (.tup xs) → H' b = some (.tup xs)
def Frz (H H' : Hp) : Prop := ∀ b o u, H b = some (.frz o u) → H' b = some (.frz o u)
theorem sqT_keep {a : Addr} {xs : List V} (e : Tups H H') (f : Frz H H') (h : SqT K H a xs) : SqT K H' a xs := by
  rcases h with (h | ⟨o, h⟩) | h
  · exact .inl (.inl (e _ _ h))
  · exact .inl (.inr ⟨o, f _ _ _ h⟩)
  · exact .inr h
mutual
theorem dp_keep (e : Tups H H') (f : Frz H H') : ∀ {d : PyData} {v : V}, Imm d → Dp K H v d → Dp K H' v d
  | .none, _, _, h => by cases h; exact .non
  | .bool b, _, _, h => by cases h; exact .bl b
  | .int i, _, _, h => by cases h; exact .int i
  | .str x, _, _, h => by cases h; exact .str x
  | .list ds, _, i, _ => by cases i
  | .tuple ds, _, i, h => by
    cases i with
    | tup i => cases h with | tup h1 h2 => exact .tup (sqT_keep e f h1) (dpA_keep e f i h2)
  | .dict _, _, i, _ => by cases i
theorem dpA_keep (e : Tups H H') (f : Frz H H') : ∀ {ds : List PyData} {vs : List V}, (∀ d ∈ ds, Imm d) → DpAll K H vs ds → DpAll K H' vs ds
  | [], _, _, h => by cases h; exact .nil
  | d :: ds, _, i, h => by cases h with | cons h1 h2 => exact .cons (dp_keep e f (i d List.mem_cons_self) h1) (dpA_keep e f (fun x hx => i x (List.mem_cons_of_mem _ hx)) h2)
end
theorem imm_dI (n : Nat) : Imm (dI n) := .int _
theorem imm_dN (n : Nat) : Imm (dN n) := .str _
theorem imm_dP (p : Place) : Imm (dP p) := .tup fun d hd => by
  simp only [List.mem_cons, List.not_mem_nil, or_false] at hd
  rcases hd with rfl | rfl <;> exact imm_dI _
theorem imm_dE (e : Ent) : Imm (dE e) := .tup fun d hd => by
  simp only [List.mem_cons, List.not_mem_nil, or_false] at hd
  rcases hd with rfl | rfl | rfl | rfl
  · exact .str _
  · exact .str _
  · exact imm_dI _
  · exact .tup fun d hd => by
      simp only [List.mem_cons, List.not_mem_nil, or_false] at hd
      subst hd
      exact .str _
theorem imm_dT (t : Thing) : Imm (dT t) := .tup fun d hd => by
  simp only [List.mem_cons, List.not_mem_nil, or_false] at hd
  rcases hd with rfl | rfl
  · exact imm_dP _
  · exact imm_dE _
theorem imm_map {α : Type} {f : α → PyData} (h : ∀ a, Imm (f a)) (l : List α) : ∀ d ∈ l.map f, Imm d := fun d hd => by
  obtain ⟨a, _, rfl⟩ := List.mem_map.mp hd
  exact h a
theorem imm_dTs (r : Row) : Imm (dTs r) := .tup (imm_map imm_dT r)
theorem imm_one {d : PyData} (h : Imm d) : ∀ x ∈ [d], Imm x := fun x hx => by rw [List.mem_singleton.mp hx]; exact h
theorem imm_two {d e : PyData} (h : Imm d) (k : Imm e) : ∀ x ∈ [d, e], Imm x := fun x hx => by
  rcases List.mem_cons.mp hx with rfl | hx
  · exact h
  · exact imm_one k x hx
theorem imm_three {d e f : PyData} (h : Imm d) (k : Imm e) (j : Imm f) : ∀ x ∈ [d, e, f], Imm x := fun x hx => by
  rcases List.mem_cons.mp hx with rfl | hx
  · exact h
  · exact imm_two k j x hx
theorem imm_dB (b : Body) : ∀ d ∈ dB b, Imm d := by
  cases b with
  | seek ep la => exact imm_two (imm_dI _) (imm_dP _)
  | promise la => exact imm_one (imm_dP _)
  | lead => exact fun d hd => by cases hd
  | sync way base things dn =>
    intro d hd
    rcases List.mem_cons.mp hd with rfl | hd
    · exact .str _
    · exact imm_three (imm_dP _) (imm_dTs _) (imm_dP _) d hd
  | lack => exact fun d hd => by cases hd
  | synced p => exact imm_one (imm_dP _)
  | propose prior place en => exact imm_three (imm_dP _) (imm_dP _) (imm_dE _)
  | took p => exact imm_one (imm_dP _)
  | done p => exact imm_one (imm_dP _)
theorem imm_dL (l : Letter) : Imm (dL l) := .tup fun d hd => by
  simp only [List.mem_cons] at hd
  rcases hd with rfl | rfl | rfl | rfl | hd
  · exact .str _
  · exact .str _
  · exact .str _
  · exact .int _
  · exact imm_dB _ d hd
/-! ### taking data apart -/
theorem dp_tup {v : V} {ds : List PyData} (h : Dp K H v (.tuple ds)) : ∃ a xs, v = .ref a ∧ SqT K H a xs ∧ DpAll K H xs ds := by
  cases h with | tup h1 h2 => exact ⟨_, _, rfl, h1, h2⟩
theorem dp_lst {v : V} {ds : List PyData} (h : Dp K H v (.list ds)) : ∃ a xs, v = .ref a ∧ SqL K H a xs ∧ DpAll K H xs ds := by
  cases h with | lst h1 h2 => exact ⟨_, _, rfl, h1, h2⟩
theorem dp_int {v : V} {i : Int} (h : Dp K H v (.int i)) : v = .int i := by cases h; rfl
theorem dp_str {v : V} {x : Str} (h : Dp K H v (.str x)) : v = .str x := by cases h; rfl
theorem dp_bl {v : V} {b : Bool} (h : Dp K H v (.bool b)) : v = .bl b := by cases h; rfl
theorem dp_non {v : V} (h : Dp K H v .none) : v = .non := by cases h; rfl
theorem dpA_len : ∀ {ds : List PyData} {vs : List V}, DpAll K H vs ds → vs.length = ds.length
  | [], _, h => by cases h; rfl
  | d :: ds, _, h => by cases h with | cons h1 h2 => rw [List.length_cons, List.length_cons, dpA_len h2]
theorem dpA_app : ∀ {ds es : List PyData} {vs ws : List V}, DpAll K H vs ds → DpAll K H ws es → DpAll K H (vs ++ ws) (ds ++ es)
  | [], _, _, _, h, k => by cases h; exact k
  | d :: ds, _, _, _, h, k => by cases h with | cons h1 h2 => exact .cons h1 (dpA_app h2 k)
theorem dpA_get : ∀ {ds : List PyData} {vs : List V} {i : Nat} {d : PyData}, DpAll K H vs ds → ds[i]? = some d → ∃ v, vs[i]? = some v ∧ Dp K H v d
  | [], _, _, _, h, e => by simp at e
  | d :: ds, _, 0, _, h, e => by
    cases h with | cons h1 h2 =>
    simp at e
    subst e
    exact ⟨_, rfl, h1⟩
  | d :: ds, _, i + 1, _, h, e => by
    cases h with | cons h1 h2 =>
    simp at e
    obtain ⟨v, a, b⟩ := dpA_get h2 e
    exact ⟨v, by simpa using a, b⟩
theorem dpA_get' : ∀ {ds : List PyData} {vs : List V} {i : Nat} {v : V}, DpAll K H vs ds → vs[i]? = some v → ∃ d, ds[i]? = some d ∧ Dp K H v d
  | [], _, _, _, h, e => by cases h; simp at e
  | d :: ds, _, 0, _, h, e => by
    cases h with | cons h1 h2 =>
    simp at e
    subst e
    exact ⟨_, rfl, h1⟩
  | d :: ds, _, i + 1, _, h, e => by
    cases h with | cons h1 h2 =>
    simp at e
    obtain ⟨d', a, b⟩ := dpA_get' h2 e
    exact ⟨d', by simpa using a, b⟩
theorem dpA_one {v : V} {d : PyData} (h : Dp K H v d) : DpAll K H [v] [d] := .cons h .nil
theorem dpA_take : ∀ {ds : List PyData} {vs : List V} (n : Nat), DpAll K H vs ds → DpAll K H (vs.take n) (ds.take n)
  | _, _, 0, _ => .nil
  | [], _, _ + 1, h => by cases h; exact .nil
  | d :: ds, _, n + 1, h => by cases h with | cons h1 h2 => exact .cons h1 (dpA_take n h2)
theorem dpA_drop : ∀ {ds : List PyData} {vs : List V} (n : Nat), DpAll K H vs ds → DpAll K H (vs.drop n) (ds.drop n)
  | _, _, 0, h => h
  | [], _, _ + 1, h => by cases h; exact .nil
  | d :: ds, _, n + 1, h => by cases h with | cons h1 h2 => exact dpA_drop n h2
theorem dpA_set : ∀ {ds : List PyData} {vs : List V} {d : PyData} {v : V} (n : Nat), DpAll K H vs ds → Dp K H v d → DpAll K H (vs.set n v) (ds.set n d)
  | [], _, _, _, _, h, _ => by cases h; exact .nil
  | _ :: _, _, _, _, 0, h, k => by cases h with | cons h1 h2 => exact .cons k h2
  | _ :: _, _, _, _, n + 1, h, k => by cases h with | cons h1 h2 => exact .cons h1 (dpA_set n h2 k)
end
end Wn

set_option Elab.async false
set_option linter.all false
set_option maxRecDepth 100000
set_option maxHeartbeats 4000000
/-! What readings come to, in data. -/
namespace Wn
open PySem PySem.Spec PyProof.Rows L2
open Zab hiding World Place Row
section
variable {K : PySem.W.Frag} {σ : L2.St} {H H' : Hp} {ta tb te : TE} {t u : TT}
def EvD (K : PySem.W.Frag) (te : TE) (σ : L2.St) (H : Hp) (d : PyData) : Prop := ∀ H1, Ex H H1 → ∀ Q : VK, (∀ v H2, Ex H1 H2 → Dp K H2 v d → Q v H2) → te σ H1 Q
def EvDs (K : PySem.W.Frag) (ta : TA) (σ : L2.St) (H : Hp) (ds : List PyData) : Prop := ∀ H1, Ex H H1 → ∀ Q : List V → Hp → Prop, (∀ vs H2, Ex H1 H2 → DpAll K H2 vs ds → Q vs H2) → ta σ H1 Q
/-- a list of such data stands at p, tracked -/
def LstAt (K : PySem.W.Frag) (H : Hp) (p : Addr) (ds : List PyData) : Prop := ∃ vs, H p = some (.lst vs) ∧ DpAll K H vs ds
/-- a new list -/
def EvN (K : PySem.W.Frag) (te : TE) (σ : L2.St) (H : Hp) (ds : List PyData) : Prop := ∀ H1, Ex H H1 → ∀ Q : VK, (∀ p H2, H1 p = none → Ex H1 H2 → LstAt K H2 p ds → Q (.ref p) H2) → te σ H1 Q
theorem LstAt.dp {p : Addr} {ds : List PyData} (h : LstAt K H p ds) : Dp K H (.ref p) (.list ds) := by
  obtain ⟨vs, h1, h2⟩ := h
  exact .lst (SqL.of h1) h2
theorem LstAt.ex {p : Addr} {ds : List PyData} (e : Ex H H') (h : LstAt K H p ds) : LstAt K H' p ds := by
  obtain ⟨vs, h1, h2⟩ := h
  exact ⟨vs, e _ _ h1, dpA_ex e h2⟩
theorem EvN.d {ds : List PyData} (h : EvN K te σ H ds) : EvD K te σ H (.list ds) := fun H1 e Q q => h H1 e Q fun p H2 _ e2 l => q _ H2 e2 l.dp
theorem EvD.ex {d : PyData} (e : Ex H H') (h : EvD K te σ H d) : EvD K te σ H' d := fun H1 a Q q => h H1 (e.trans a) Q q
theorem EvN.ex {d : List PyData} (e : Ex H H') (h : EvN K te σ H d) : EvN K te σ H' d := fun H1 a Q q => h H1 (e.trans a) Q q
theorem EvDs.ex {ta : TA} {d : List PyData} (e : Ex H H') (h : EvDs K ta σ H d) : EvDs K ta σ H' d := fun H1 a Q q => h H1 (e.trans a) Q q
theorem EvD.to {d d' : PyData} (h : EvD K te σ H d) (e : d = d') : EvD K te σ H d' := e ▸ h
theorem evd_ev {v : V} {d : PyData} (h : Evl.Ev te σ H v) (hd : Dp K H v d) : EvD K te σ H d := fun H1 e Q q => h H1 e Q fun H2 e2 => q v H2 e2 (dp_ex (e.trans e2) hd)
theorem ev_int {i : Int} (h : EvD K te σ H (.int i)) : Evl.Ev te σ H (.int i) := fun H1 e Q q => h H1 e Q fun v H2 e2 hd => by rw [dp_int hd]; exact q H2 e2
theorem ev_str {i : Str} (h : EvD K te σ H (.str i)) : Evl.Ev te σ H (.str i) := fun H1 e Q q => h H1 e Q fun v H2 e2 hd => by rw [dp_str hd]; exact q H2 e2
theorem ev_bl {i : Bool} (h : EvD K te σ H (.bool i)) : Evl.Ev te σ H (.bl i) := fun H1 e Q q => h H1 e Q fun v H2 e2 hd => by rw [dp_bl hd]; exact q H2 e2
theorem evd_var {i : Nat} {v : V} {d : PyData} (hd : Dp K H v d) (h : σ[i]? = some (some v) := by rfl) : EvD K (tVar i) σ H d := evd_ev (Evl.ev_var h) hd
theorem ev_var {i : Nat} {v : V} (h : σ[i]? = some (some v) := by rfl) : Evl.Ev (tVar i) σ H v := Evl.ev_var h
theorem evd_c {v : V} {d : PyData} (hd : Dp K H v d) : EvD K (tC v) σ H d := evd_ev Evl.ev_c hd
theorem evd_int {i : Int} : EvD K (tC (.int i)) σ H (.int i) := evd_c (.int i)
theorem evd_str {i : Str} : EvD K (tC (.str i)) σ H (.str i) := evd_c (.str i)
theorem evd_bl {i : Bool} : EvD K (tC (.bl i)) σ H (.bool i) := evd_c (.bl i)
theorem evd_non : EvD K (tC .non) σ H .none := evd_c .non
/-! ### operators -/
def RD (K : PySem.W.Frag) (r : R2) (x y z : PyData) : Prop := ∀ (H : Hp) (u v : V), Dp K H u x → Dp K H v y → ∀ Q : VK, (∀ w H2, Ex H H2 → Dp K H2 w z → Q w H2) → r u v H Q
theorem evd_op {r : R2} {x y z : PyData} (ha : EvD K ta σ H x) (hb : EvD K tb σ H y) (hr : RD K r x y z) : EvD K (tOp r ta tb) σ H z := fun H1 e Q q =>
  ha H1 e _ fun u H2 e2 hu => hb H2 (e.trans e2) _ fun v H3 e3 hv => hr H3 u v (dp_ex e3 hu) hv Q fun w H4 e4 hw => q w H4 ((e2.trans e3).trans e4) hw
theorem rd_I0 {g : Int → Int → V} {i j : Int} {z : PyData} (hz : ∀ H, Dp K H (g i j) z) : RD K (rI0 g) (.int i) (.int j) z := fun H u v hu hv Q q => by
  rw [dp_int hu, dp_int hv]
  exact ⟨i, j, rfl, rfl, q _ H (Evl.Ex.refl H) (hz H)⟩
theorem rd_I {C : Int → Int → Prop} {g : Int → Int → V} {i j : Int} {z : PyData} (hc : C i j) (hz : ∀ H, Dp K H (g i j) z) : RD K (rI C g) (.int i) (.int j) z := fun H u v hu hv Q q => by
  rw [dp_int hu, dp_int hv]
  exact ⟨i, j, rfl, rfl, hc, q _ H (Evl.Ex.refl H) (hz H)⟩
theorem rd_eqS {a b : Str} : RD K rEq (.str a) (.str b) (.bool (decide (a = b))) := fun H u v hu hv Q q => by
  rw [dp_str hu, dp_str hv]
  refine ⟨rfl, ?_⟩
  have e : decide (V.str a = V.str b) = decide (a = b) := by by_cases h : a = b <;> simp [h]
  rw [e]
  exact q _ H (Evl.Ex.refl H) (.bl _)
theorem rd_neS {a b : Str} : RD K rNe (.str a) (.str b) (.bool (!decide (a = b))) := fun H u v hu hv Q q => by
  rw [dp_str hu, dp_str hv]
  refine ⟨rfl, ?_⟩
  have e : decide (V.str a = V.str b) = decide (a = b) := by by_cases h : a = b <;> simp [h]
  rw [e]
  exact q _ H (Evl.Ex.refl H) (.bl _)
theorem rd_eqI {a b : Int} : RD K rEq (.int a) (.int b) (.bool (decide (a = b))) := fun H u v hu hv Q q => by
  rw [dp_int hu, dp_int hv]
  refine ⟨rfl, ?_⟩
  have e : decide (V.int a = V.int b) = decide (a = b) := by by_cases h : a = b <;> simp [h]
  rw [e]
  exact q _ H (Evl.Ex.refl H) (.bl _)
theorem rd_neI {a b : Int} : RD K rNe (.int a) (.int b) (.bool (!decide (a = b))) := fun H u v hu hv Q q => by
  rw [dp_int hu, dp_int hv]
  refine ⟨rfl, ?_⟩
  have e : decide (V.int a = V.int b) = decide (a = b) := by by_cases h : a = b <;> simp [h]
  rw [e]
  exact q _ H (Evl.Ex.refl H) (.bl _)
theorem rd_eqD {x y : PyData} {j k : Nat} (hx : Shp j x) (hy : Shp k y) (hj : j ≤ 64 := by decide) (hk : k ≤ 64 := by decide) : RD K (rEqD K) x y (.bool (PyData.eqv x y)) := fun H u v hu hv Q q =>
  ⟨x, y, hu, hv, hx.shaped hj, hy.shaped hk, q _ H (Evl.Ex.refl H) (.bl _)⟩
theorem rd_neD {x y : PyData} {j k : Nat} (hx : Shp j x) (hy : Shp k y) (hj : j ≤ 64 := by decide) (hk : k ≤ 64 := by decide) : RD K (rNeD K) x y (.bool (!PyData.eqv x y)) := fun H u v hu hv Q q =>
  ⟨x, y, hu, hv, hx.shaped hj, hy.shaped hk, q _ H (Evl.Ex.refl H) (.bl _)⟩
theorem rd_inD {x : PyData} {ds : List PyData} {j k : Nat} (hx : Shp j x) (hy : Shp k (.list ds)) (hj : j ≤ 64 := by decide) (hk : k ≤ 64 := by decide) : RD K (rInD K) x (.list ds) (.bool (ds.any fun z => PyData.eqv z x)) := fun H u v hu hv Q q =>
  ⟨x, ds, hu, hv, hx.shaped hj, hy.shaped hk, q _ H (Evl.Ex.refl H) (.bl _)⟩
theorem dpA_strs : ∀ {ss : List Str} {vs : List V}, DpAll K H vs (ss.map PyData.str) → vs = ss.map V.str
  | [], _, h => by cases h; rfl
  | s :: ss, _, h => by
    cases h with | cons h1 h2 =>
    rw [dp_str h1, dpA_strs h2]
    rfl
theorem dpA_ints : ∀ {ss : List Int} {vs : List V}, DpAll K H vs (ss.map PyData.int) → vs = ss.map V.int
  | [], _, h => by cases h; rfl
  | s :: ss, _, h => by
    cases h with | cons h1 h2 =>
    rw [dp_int h1, dpA_ints h2]
    rfl
theorem inV_strs (x : Str) : ∀ ss : List Str, inV (.str x) (ss.map V.str) = ss.contains x
  | [] => rfl
  | s :: ss => by
    have h := inV_strs x ss
    unfold inV at h ⊢
    rw [List.map_cons, List.any_cons, h, List.contains_cons]
    congr 1
    unfold eqV
    by_cases c : s = x
    · subst c; simp
    · have c2 : ¬ x = s := fun q => c q.symm
      have e : (s == x) = (x == s) := by rw [beq_eq_false_iff_ne.mpr c, beq_eq_false_iff_ne.mpr c2]
      simp [e]
theorem flat_strs : ∀ ss : List Str, (ss.map V.str).all flatV = true
  | [] => rfl
  | s :: ss => by rw [List.map_cons, List.all_cons, flat_strs ss]; rfl
/-- a text in a written row of texts -/
theorem rd_inS {x : Str} {ss : List Str} {neg : Bool} : RD K (rIn K neg) (.str x) (.tuple (ss.map .str)) (.bool (if neg then !ss.contains x else ss.contains x)) := fun H u v hu hv Q q => by
  obtain ⟨a, xs, rfl, h1, h2⟩ := dp_tup hv
  have hx := dpA_strs h2
  subst hx
  rw [dp_str hu]
  refine ⟨a, _, rfl, .inr h1, rfl, flat_strs ss, ?_⟩
  rw [inV_strs]
  exact q _ H (Evl.Ex.refl H) (.bl _)
theorem rd_inSL {x : Str} {ss : List Str} {neg : Bool} : RD K (rIn K neg) (.str x) (.list (ss.map .str)) (.bool (if neg then !ss.contains x else ss.contains x)) := fun H u v hu hv Q q => by
  obtain ⟨a, xs, rfl, h1, h2⟩ := dp_lst hv
  have hx := dpA_strs h2
  subst hx
  rw [dp_str hu]
  refine ⟨a, _, rfl, .inl h1, rfl, flat_strs ss, ?_⟩
  rw [inV_strs]
  exact q _ H (Evl.Ex.refl H) (.bl _)
theorem dp_place {v : V} {p : Place} (h : Dp K H v (dP p)) : ∃ a, v = .ref a ∧ SqT K H a (([(p.1 : Int), (p.2 : Int)] : List Int).map V.int) := by
  obtain ⟨a, xs, rfl, h1, h2⟩ := dp_tup h
  cases h2 with | cons a1 b1 =>
  cases b1 with | cons a2 b2 =>
  cases b2
  have e1 := dp_int a1
  have e2 := dp_int a2
  subst e1 e2
  exact ⟨a, rfl, h1⟩
theorem dtt {p : Prop} [Decidable p] (h : p) : true = decide p := (decide_eq_true h).symm
theorem dff {p : Prop} [Decidable p] (h : ¬ p) : false = decide p := (decide_eq_false h).symm
theorem lexLt_P (p q : Place) : HT.lexLt [(p.1 : Int), (p.2 : Int)] [(q.1 : Int), (q.2 : Int)] = decide (Plt p q) := by
  rw [HT.lexLt_cons]
  by_cases c : (p.1 : Int) = q.1
  · rw [if_pos c, HT.lexLt_cons]
    have c' : p.1 = q.1 := by omega
    by_cases d : (p.2 : Int) = q.2
    · rw [if_pos d, HT.lexLt_nil_nil]
      exact dff (by unfold Plt; omega)
    · rw [if_neg d]
      by_cases f : (p.2 : Int) < q.2
      · rw [decide_eq_true f]
        exact dtt (by unfold Plt; omega)
      · rw [decide_eq_false f]
        exact dff (by unfold Plt; omega)
  · rw [if_neg c]
    by_cases f : (p.1 : Int) < q.1
    · rw [decide_eq_true f]
      exact dtt (by unfold Plt; omega)
    · rw [decide_eq_false f]
      exact dff (by unfold Plt; omega)
theorem rd_ltP {p q : Place} : RD K (rLtT K) (dP p) (dP q) (.bool (decide (Plt p q))) := fun H u v hu hv Q k => by
  obtain ⟨a, rfl, ha⟩ := dp_place hu
  obtain ⟨b, rfl, hb⟩ := dp_place hv
  refine ⟨a, b, _, _, rfl, rfl, ha, hb, ?_⟩
  rw [lexLt_P]
  exact k _ H (Evl.Ex.refl H) (.bl _)
theorem rd_leP {p q : Place} : RD K (rLeT K) (dP p) (dP q) (.bool (decide (Ple p q))) := fun H u v hu hv Q k => by
  obtain ⟨a, rfl, ha⟩ := dp_place hu
  obtain ⟨b, rfl, hb⟩ := dp_place hv
  refine ⟨a, b, _, _, rfl, rfl, ha, hb, ?_⟩
  have e : Ob.lexAt (fun j => decide (([(p.1 : Int), (p.2 : Int)] : List Int).getD j 0 = ([(q.1 : Int), (q.2 : Int)] : List Int).getD j 0)) (fun j => decide (([(p.1 : Int), (p.2 : Int)] : List Int).getD j 0 ≤ ([(q.1 : Int), (q.2 : Int)] : List Int).getD j 0)) (decide (([(p.1 : Int), (p.2 : Int)] : List Int).length ≤ ([(q.1 : Int), (q.2 : Int)] : List Int).length)) 0 (min ([(p.1 : Int), (p.2 : Int)] : List Int).length ([(q.1 : Int), (q.2 : Int)] : List Int).length) = decide (Ple p q) := by
    show Ob.lexAt _ _ true 0 2 = _
    rw [Ob.lexAt_succ, Ob.lexAt_succ, Ob.lexAt_zero]
    show (if decide ((p.1 : Int) = q.1) = true then (if decide ((p.2 : Int) = q.2) = true then true else decide ((p.2 : Int) ≤ q.2)) else decide ((p.1 : Int) ≤ q.1)) = _
    by_cases c : (p.1 : Int) = q.1
    · rw [decide_eq_true c, if_pos rfl]
      by_cases d : (p.2 : Int) = q.2
      · rw [decide_eq_true d, if_pos rfl]
        exact dtt (by unfold Ple; omega)
      · rw [decide_eq_false d, if_neg Bool.false_ne_true]
        by_cases f : (p.2 : Int) ≤ q.2
        · rw [decide_eq_true f]
          exact dtt (by unfold Ple; omega)
        · rw [decide_eq_false f]
          exact dff (by unfold Ple; omega)
    · rw [decide_eq_false c, if_neg Bool.false_ne_true]
      by_cases f : (p.1 : Int) ≤ q.1
      · rw [decide_eq_true f]
        exact dtt (by unfold Ple; omega)
      · rw [decide_eq_false f]
        exact dff (by unfold Ple; omega)
  rw [e]
  exact k _ H (Evl.Ex.refl H) (.bl _)
theorem atI_dp {ds : List PyData} {vs : List V} {i : Int} {d : PyData} (h : DpAll K H vs ds) (e : atI ds i = some d) : ∃ v, atI vs i = some v ∧ Dp K H v d := by
  unfold atI at e ⊢
  rw [dpA_len h]
  obtain ⟨j, h1, h2⟩ := Option.bind_eq_some_iff.mp e
  obtain ⟨v, h3, h4⟩ := dpA_get h h2
  exact ⟨v, by rw [h1]; exact h3, h4⟩
theorem rd_ixT {ds : List PyData} {i : Int} {d : PyData} (e : atI ds i = some d) : RD K (rIxT K) (.tuple ds) (.int i) d := fun H u v hu hv Q q => by
  obtain ⟨a, xs, rfl, h1, h2⟩ := dp_tup hu
  rw [dp_int hv]
  obtain ⟨w, h3, h4⟩ := atI_dp h2 e
  exact ⟨a, xs, i, w, rfl, rfl, h1, h3, q w H (Evl.Ex.refl H) h4⟩
theorem rd_ixL {ds : List PyData} {i : Int} {d : PyData} (e : atI ds i = some d) : RD K (rIxL K) (.list ds) (.int i) d := fun H u v hu hv Q q => by
  obtain ⟨a, xs, rfl, h1, h2⟩ := dp_lst hu
  rw [dp_int hv]
  obtain ⟨w, h3, h4⟩ := atI_dp h2 e
  exact ⟨a, xs, i, w, rfl, rfl, h1, h3, q w H (Evl.Ex.refl H) h4⟩
theorem rd_catT {ds es : List PyData} (hd : ds ≠ []) (hz : ds.length + es.length ≤ 100000) : RD K (rCatT K) (.tuple ds) (.tuple es) (.tuple (ds ++ es)) := fun H u v hu hv Q q => by
  obtain ⟨a, xs, rfl, h1, h2⟩ := dp_tup hu
  obtain ⟨b, ys, rfl, k1, k2⟩ := dp_tup hv
  have l1 := dpA_len h2
  have l2 := dpA_len k2
  refine ⟨a, b, xs, ys, rfl, rfl, h1, k1, fun e => hd (List.length_eq_zero_iff.mp (by rw [← l1, e]; rfl)), Evl.sz_of (by omega), fun e => ?_, fun _ p hp => ?_⟩
  · have : es = [] := List.length_eq_zero_iff.mp (by rw [← l2, e]; rfl)
    subst this
    rw [List.append_nil] at q
    exact q _ H (Evl.Ex.refl H) (.tup h1 h2)
  · have e := Evl.Ex.new (o := .tup (xs ++ ys)) hp
    exact q _ _ e (.tup (SqT.of upd_same) (dpA_app (dpA_ex e h2) (dpA_ex e k2)))
/-- two new lists -/
theorem evn_cat {ds es : List PyData} (ha : EvN K ta σ H ds) (hb : EvN K tb σ H es) (hz : ds.length + es.length ≤ 1000000) : EvN K (tOp rCat ta tb) σ H (ds ++ es) := fun H1 e Q q =>
  ha H1 e _ fun p H2 hp e2 l1 => hb H2 (e.trans e2) _ fun p' H3 hp' e3 l2 => by
    obtain ⟨xs, a1, a2⟩ := l1.ex e3
    obtain ⟨ys, b1, b2⟩ := l2
    have s1 := dpA_len a2
    have s2 := dpA_len b2
    refine ⟨p, p', xs, ys, rfl, rfl, a1, b1, Nat.le_trans (show _ ≤ 1000000 by omega) (by decide), fun x hx => ?_⟩
    have e4 := Evl.Ex.new (o := .lst (xs ++ ys)) hx
    exact q x _ (Evl.fresh_back (e2.trans e3) hx) ((e2.trans e3).trans e4) ⟨_, upd_same, dpA_app (dpA_ex e4 a2) (dpA_ex e4 b2)⟩
/-! ### truths -/
theorem et_t {b : Bool} (h : EvD K te σ H (.bool b)) : Evl.EvT (tTest te) σ H b := Evl.et_test (ev_bl h)
theorem et_b {b : Bool} (h : EvD K te σ H (.bool b)) : Evl.EvT (tB te) σ H b := Evl.et_B (ev_bl h)
theorem et_to {b b' : Bool} (h : Evl.EvT t σ H b) (e : b = b') : Evl.EvT t σ H b' := e ▸ h
theorem evd_and {a b : Bool} (h1 : EvD K ta σ H (.bool a)) (h2 : a = true → EvD K tb σ H (.bool b)) : EvD K (tAndV ta tb) σ H (.bool (a && b)) := evd_ev (Evl.ev_andV (ev_bl h1) fun e => ev_bl (h2 e)) (.bl _)
theorem evd_or {a b : Bool} (h1 : EvD K ta σ H (.bool a)) (h2 : a = false → EvD K tb σ H (.bool b)) : EvD K (tOrV ta tb) σ H (.bool (a || b)) := evd_ev (Evl.ev_orV (ev_bl h1) fun e => ev_bl (h2 e)) (.bl _)
theorem evd_not {a : Bool} (h1 : EvD K ta σ H (.bool a)) : EvD K (tNotV ta) σ H (.bool (!a)) := evd_ev (Evl.ev_notV (ev_bl h1)) (.bl _)
theorem evd_if {b : Bool} {d : PyData} (h : Evl.EvT t σ H b) (h1 : b = true → EvD K ta σ H d) (h2 : b = false → EvD K tb σ H d) : EvD K (tIf t ta tb) σ H d := fun H1 e Q q => h H1 e _ fun H2 e2 => by
  cases b with
  | true =>
    show ta σ H2 Q
    exact h1 rfl H2 (e.trans e2) Q fun v H3 e3 => q v H3 (e2.trans e3)
  | false =>
    show tb σ H2 Q
    exact h2 rfl H2 (e.trans e2) Q fun v H3 e3 => q v H3 (e2.trans e3)
theorem evn_if {b : Bool} {d : List PyData} (h : Evl.EvT t σ H b) (h1 : b = true → EvN K ta σ H d) (h2 : b = false → EvN K tb σ H d) : EvN K (tIf t ta tb) σ H d := fun H1 e Q q => h H1 e _ fun H2 e2 => by
  cases b with
  | true =>
    show ta σ H2 Q
    exact h1 rfl H2 (e.trans e2) Q fun p H3 hp e3 => q p H3 (Evl.fresh_back e2 hp) (e2.trans e3)
  | false =>
    show tb σ H2 Q
    exact h2 rfl H2 (e.trans e2) Q fun p H3 hp e3 => q p H3 (Evl.fresh_back e2 hp) (e2.trans e3)
/-- a < b < c -/
theorem et_chain {r r' : R2} {tc : TE} {x y z : PyData} {a b : Bool} (ha : EvD K ta σ H x) (hb : EvD K tb σ H y) (hr : RD K r x y (.bool a)) (hc : a = true → EvD K tc σ H z) (hr' : a = true → RD K r' y z (.bool b)) : EvD K (tChain r r' ta tb tc) σ H (.bool (a && b)) := fun H1 e Q q =>
  ha H1 e _ fun u H2 e2 hu => hb H2 (e.trans e2) _ fun v H3 e3 hv => hr H3 u v (dp_ex e3 hu) hv _ fun w H4 e4 hw => by
    refine ⟨a, dp_bl hw, ?_⟩
    cases a with
    | true =>
      show tc σ H4 fun z H5 => r' v z H5 Q
      exact hc rfl H4 (((e.trans e2).trans e3).trans e4) _ fun z H5 e5 hz => hr' rfl H5 v z (dp_ex (e4.trans e5) hv) hz Q fun o H6 e6 ho => q o H6 ((((e2.trans e3).trans e4).trans e5).trans e6) ho
    | false =>
      show Q (.bl false) H4
      exact q _ H4 ((e2.trans e3).trans e4) (.bl _)
/-! ### displays, arguments -/
theorem eds_nil : EvDs K tNil σ H [] := fun H1 _ _ q => q [] H1 (Evl.Ex.refl H1) .nil
theorem eds_cons {tr : TA} {d : PyData} {ds : List PyData} (h : EvD K te σ H d) (hr : EvDs K tr σ H ds) : EvDs K (tCons te tr) σ H (d :: ds) := fun H1 e _ q =>
  h H1 e _ fun v H2 e2 hv => hr H2 (e.trans e2) _ fun vs H3 e3 hvs => q _ H3 (e2.trans e3) (.cons (dp_ex e3 hv) hvs)
theorem eds_one {d : PyData} (h : EvD K te σ H d) : EvDs K (tCons te tNil) σ H [d] := eds_cons h eds_nil
theorem evd_tup {ta : TA} {ds : List PyData} (h : EvDs K ta σ H ds) (hz : ds.length ≤ 100000 := by decide) : EvD K (tTup ta) σ H (.tuple ds) := fun H1 e _ q =>
  h H1 e _ fun vs H2 e2 hv => ⟨Evl.sz_of (by rw [dpA_len hv]; exact hz), fun p hp => q _ _ (e2.trans (Evl.Ex.new hp)) (.tup (SqT.of upd_same) (dpA_ex (Evl.Ex.new hp) hv))⟩
theorem evn_lst {ta : TA} {ds : List PyData} (h : EvDs K ta σ H ds) (hz : ds.length ≤ 100000 := by decide) : EvN K (tLst ta) σ H ds := fun H1 e _ q =>
  h H1 e _ fun vs H2 e2 hv => ⟨Evl.sz_of (by rw [dpA_len hv]; exact hz), fun p hp => q p _ (Evl.fresh_back e2 hp) (e2.trans (Evl.Ex.new hp)) ⟨vs, upd_same, dpA_ex (Evl.Ex.new hp) hv⟩⟩
/-! ### fields, calls -/
theorem ev_fld {p C dx : Addr} {fs : List (Str × V)} {f : Str} {v : V} (ho : Evl.Ev ta σ H (.ref p)) (hp : H p = some (.ins C dx fs)) (c : Cls K C) (n : NoAttr K C f) (l : fs.lookup f = some v) : Evl.Ev (tFld K ta f) σ H v := fun H1 e Q q =>
  ho H1 e _ fun H2 e2 => ⟨p, C, dx, fs, v, rfl, e2 _ _ (e _ _ hp), c, n, l, q H2 e2⟩
theorem evd_call {sp : Sp} {dvs : List V} {E : XK} {ta : TA} {ds : List PyData} {d : PyData} (h : EvDs K ta σ H ds)
    (hs : ∀ vs H1, Ex H H1 → DpAll K H1 vs ds → ∀ Q : VK, (∀ v H2, Ex H1 H2 → Dp K H2 v d → Q v H2) → sp (vs ++ dvs) H1 Q E) : EvD K (tCall sp dvs E ta) σ H d := fun H1 e Q q =>
  h H1 e _ fun vs H2 e2 hv => hs vs H2 (e.trans e2) hv Q fun v H3 e3 hd => q v H3 (e2.trans e3) hd
theorem evn_call {sp : Sp} {dvs : List V} {E : XK} {ta : TA} {ds es : List PyData} (h : EvDs K ta σ H ds)
    (hs : ∀ vs H1, Ex H H1 → DpAll K H1 vs ds → ∀ Q : VK, (∀ p H2, H1 p = none → Ex H1 H2 → LstAt K H2 p es → Q (.ref p) H2) → sp (vs ++ dvs) H1 Q E) : EvN K (tCall sp dvs E ta) σ H es := fun H1 e Q q =>
  h H1 e _ fun vs H2 e2 hv => hs vs H2 (e.trans e2) hv Q fun p H3 hp e3 hd => q p H3 (Evl.fresh_back e2 hp) (e2.trans e3) hd
theorem evd_meth {C p dx : Addr} {fs : List (Str × V)} {m : Str} {sp : Sp} {dvs : List V} {E : XK} {ta : TA} {ds : List PyData} {d : PyData} (ho : Evl.Ev te σ H (.ref p)) (hp : H p = some (.ins C dx fs)) (l : fs.lookup m = none) (h : EvDs K ta σ H ds)
    (hs : ∀ vs H1, Ex H H1 → DpAll K H1 vs ds → ∀ Q : VK, (∀ v H2, Ex H1 H2 → Dp K H2 v d → Q v H2) → sp (.ref p :: (vs ++ dvs)) H1 Q E) : EvD K (tMeth C m sp dvs E te ta) σ H d := fun H1 e Q q =>
  ho H1 e _ fun H2 e2 => ⟨p, dx, fs, rfl, e2 _ _ (e _ _ hp), l, h H2 (e.trans e2) _ fun vs H3 e3 hv => hs vs H3 ((e.trans e2).trans e3) hv Q fun v H4 e4 hd => q v H4 ((e2.trans e3).trans e4) hd⟩
theorem evn_meth {C p dx : Addr} {fs : List (Str × V)} {m : Str} {sp : Sp} {dvs : List V} {E : XK} {ta : TA} {ds es : List PyData} (ho : Evl.Ev te σ H (.ref p)) (hp : H p = some (.ins C dx fs)) (l : fs.lookup m = none) (h : EvDs K ta σ H ds)
    (hs : ∀ vs H1, Ex H H1 → DpAll K H1 vs ds → ∀ Q : VK, (∀ x H2, H1 x = none → Ex H1 H2 → LstAt K H2 x es → Q (.ref x) H2) → sp (.ref p :: (vs ++ dvs)) H1 Q E) : EvN K (tMeth C m sp dvs E te ta) σ H es := fun H1 e Q q =>
  ho H1 e _ fun H2 e2 => ⟨p, dx, fs, rfl, e2 _ _ (e _ _ hp), l, h H2 (e.trans e2) _ fun vs H3 e3 hv => hs vs H3 ((e.trans e2).trans e3) hv Q fun x H4 hx e4 hd => q x H4 (Evl.fresh_back (e2.trans e3) hx) ((e2.trans e3).trans e4) hd⟩
/-- a built-in's call on data -/
theorem evd_cb {r : List V → Hp → VK → Prop} {ta : TA} {ds : List PyData} {d : PyData} (h : EvDs K ta σ H ds)
    (hr : ∀ vs H1, Ex H H1 → DpAll K H1 vs ds → ∀ Q : VK, (∀ v H2, Ex H1 H2 → Dp K H2 v d → Q v H2) → r vs H1 Q) : EvD K (tCB r ta) σ H d := fun H1 e Q q =>
  h H1 e _ fun vs H2 e2 hv => hr vs H2 (e.trans e2) hv Q fun v H3 e3 hd => q v H3 (e2.trans e3) hd
theorem evn_cb {r : List V → Hp → VK → Prop} {ta : TA} {ds es : List PyData} (h : EvDs K ta σ H ds)
    (hr : ∀ vs H1, Ex H H1 → DpAll K H1 vs ds → ∀ Q : VK, (∀ p H2, H1 p = none → Ex H1 H2 → LstAt K H2 p es → Q (.ref p) H2) → r vs H1 Q) : EvN K (tCB r ta) σ H es := fun H1 e Q q =>
  h H1 e _ fun vs H2 e2 hv => hr vs H2 (e.trans e2) hv Q fun p H3 hp e3 hd => q p H3 (Evl.fresh_back e2 hp) (e2.trans e3) hd
/-! ### statements -/
variable {D : Ends} {tu tw tz : TS}
theorem s_asgD {i : Nat} {d : PyData} (h : EvD K te σ H d) (k : ∀ v H1, Ex H H1 → Dp K H1 v d → D.nx (σ.set i (some v)) H1) : tAsg te (gName i) D σ H := h H (Evl.Ex.refl H) _ fun v H1 e hd => k v H1 e hd
theorem q_asgD {i : Nat} {d : PyData} (h : EvD K te σ H d) (k : ∀ v H1, Ex H H1 → Dp K H1 v d → tz D (σ.set i (some v)) H1) : tSeq (tAsg te (gName i)) tz D σ H := s_asgD (D := { D with nx := tz D }) h k
theorem s_asgN {i : Nat} {ds : List PyData} (h : EvN K te σ H ds) (k : ∀ p H1, H p = none → Ex H H1 → LstAt K H1 p ds → D.nx (σ.set i (some (.ref p))) H1) : tAsg te (gName i) D σ H := h H (Evl.Ex.refl H) _ fun p H1 hp e hd => k p H1 hp e hd
theorem q_asgN {i : Nat} {ds : List PyData} (h : EvN K te σ H ds) (k : ∀ p H1, H p = none → Ex H H1 → LstAt K H1 p ds → tz D (σ.set i (some (.ref p))) H1) : tSeq (tAsg te (gName i)) tz D σ H := s_asgN (D := { D with nx := tz D }) h k
theorem s_retD {d : PyData} (h : EvD K te σ H d) (k : ∀ v H1, Ex H H1 → Dp K H1 v d → D.rt v H1) : tRet te D σ H := h H (Evl.Ex.refl H) _ k
theorem s_retN {ds : List PyData} (h : EvN K te σ H ds) (k : ∀ p H1, H p = none → Ex H H1 → LstAt K H1 p ds → D.rt (.ref p) H1) : tRet te D σ H := h H (Evl.Ex.refl H) _ k
/-- if c: .. (leaves), then the rest -/
theorem q_when {b : Bool} (h : Evl.EvT t σ H b) (h1 : b = true → ∀ H1, Ex H H1 → tu { D with nx := tz D } σ H1) (h2 : b = false → ∀ H1, Ex H H1 → tz D σ H1) : tSeq (tIfS t tu tNext) tz D σ H := Evl.q_when h h1 h2
end
/-! ### comprehensions -/
section
variable {K : PySem.W.Frag} {σ : L2.St} {H : Hp} {tl te : TE} {t : TT} {vs : List Nat} {α : Type}
def LcW (K : PySem.W.Frag) (H1 : Hp) (D : Addr) (l : List PyData) (H' : Hp) : Prop := H1 D = none ∧ Ex H1 H' ∧ LstAt K H' D l ∧ ∀ d ∈ l, Imm d
theorem lcw_turn {H1 H' : Hp} {D : Addr} {l : List PyData} {σ2 : L2.St} {b : Bool} {d : PyData} {Nx : Hp → Prop} (p : LcW K H1 D l H') (hz : l.length < 100000) (hi : Imm d) (ht : Evl.EvT t σ2 H' b) (he : b = true → EvD K te σ2 H' d)
    (k : ∀ H'', LcW K H1 D (if b then l ++ [d] else l) H'' → Nx H'') :
    t σ2 H' fun b H3 => if b = true then te σ2 H3 fun y H4 => ∃ acc, H4 D = some (.lst acc) ∧ acc.length < sizeLine ∧ Nx (upd H4 D (.lst (acc ++ [y]))) else Nx H3 := by
  obtain ⟨p1, p2, p3, p4⟩ := p
  refine ht H' (Evl.Ex.refl _) _ fun H3 e3 => ?_
  cases b with
  | true =>
    show te σ2 H3 fun y H4 => ∃ acc, H4 D = some (.lst acc) ∧ acc.length < sizeLine ∧ Nx (upd H4 D (.lst (acc ++ [y])))
    refine he rfl H3 e3 _ fun y H4 e4 hy => ?_
    obtain ⟨acc, a1, a2⟩ := p3.ex (e3.trans e4)
    have hl := dpA_len a2
    have tu : Tups H4 (upd H4 D (.lst (acc ++ [y]))) := fun b xs hb => by rw [upd_ne (ne_of hb a1 (by intro q; cases q))]; exact hb
    have fr : Frz H4 (upd H4 D (.lst (acc ++ [y]))) := fun b o u hb => by rw [upd_ne (ne_of hb a1 (by intro q; cases q))]; exact hb
    refine ⟨acc, a1, Evl.sz_lt (by omega), k _ ⟨p1, Evl.Ex.mut ((p2.trans e3).trans e4) p1, ⟨acc ++ [y], upd_same, dpA_app (dpA_keep tu fr p4 a2) (dpA_one (dp_keep tu fr hi hy))⟩, fun x hx => ?_⟩⟩
    rcases List.mem_append.mp hx with hx | hx
    · exact p4 x hx
    · rw [List.mem_singleton.mp hx]
      exact hi
  | false => exact k H3 ⟨p1, p2.trans e3, p3.ex e3, p4⟩
theorem take_snoc {xs : List α} {i : Nat} {a : α} (h : xs[i]? = some a) (c : α → Bool) (f : α → PyData) :
    ((xs.take (i + 1)).filter c).map f = if c a then ((xs.take i).filter c).map f ++ [f a] else ((xs.take i).filter c).map f := by
  rw [List.take_add_one, h, List.filter_append, List.map_append]
  by_cases q : c a = true
  · simp [q]
  · simp [q]
theorem lcw_size {xs : List α} {i : Nat} {c : α → Bool} {f : α → PyData} (hz : xs.length < 100000) : (((xs.take i).filter c).map f).length < 100000 := by
  rw [List.length_map]
  have h1 := List.length_filter_le c (xs.take i)
  rw [List.length_take] at h1
  omega
/-- [e for x in xs if c], xs a list of data, x a name -/
theorem evn_lc {j : Nat} {xs : List α} {g : α → PyData} (c : α → Bool) (f : α → PyData) (h : EvD K tl σ H (.list (xs.map g))) (hz : xs.length < 100000) (hi : ∀ a ∈ xs, Imm (f a))
    (ht : ∀ a ∈ xs, ∀ v H1, Ex H H1 → Dp K H1 v (g a) → Evl.EvT t ((wipe σ vs).set j (some v)) H1 (c a))
    (he : ∀ a ∈ xs, ∀ v H1, Ex H H1 → Dp K H1 v (g a) → c a = true → EvD K te ((wipe σ vs).set j (some v)) H1 (f a))
    (hw : ∀ x, wipe ((wipe σ vs).set j (some x)) vs = wipe σ vs := by intro _; rfl) : EvN K (tLc (iList K tl) (gName j) t te vs) σ H ((xs.filter c).map f) := fun H0 e Q q =>
  h H0 e _ fun v H1 e1 hv => by
    obtain ⟨a, ws, rfl, s1, s2⟩ := dp_lst hv
    have hl : ws.length = xs.length := by rw [dpA_len s2, List.length_map]
    refine ⟨a, rfl, ⟨ws, s1⟩, fun D hD => lc_list (xs := ws) (fun i H' => LcW K H1 D (((xs.take i).filter c).map f) H') ⟨hD, Evl.Ex.new hD, ⟨[], upd_same, .nil⟩, fun d hd => by cases hd⟩ (fun i H' _ p => Evl.ex_l p.2.1 s1) (fun i x H' hx p => ?_) fun H' p => ?_⟩
    · obtain ⟨d, hd, hxd⟩ := dpA_get' s2 hx
      rw [List.getElem?_map] at hd
      obtain ⟨a', ha', rfl⟩ := Option.map_eq_some_iff.mp hd
      have hm := List.mem_of_getElem? ha'
      refine ⟨hw x, lcw_turn (b := c a') (d := f a') p (lcw_size hz) (hi a' hm) (ht a' hm x H' ((e.trans e1).trans p.2.1) (dp_ex p.2.1 hxd)) (fun hc => he a' hm x H' ((e.trans e1).trans p.2.1) (dp_ex p.2.1 hxd) hc) fun H'' k => ?_⟩
      rw [← take_snoc ha' c f] at k
      exact k
    · obtain ⟨p1, p2, p3, _⟩ := p
      rw [hl, List.take_length] at p3
      exact q D H' (Evl.fresh_back e1 p1) (e1.trans p2) p3
/-- .. over a tuple -/
theorem evn_lcT {j : Nat} {xs : List α} {g : α → PyData} (c : α → Bool) (f : α → PyData) (h : EvD K tl σ H (.tuple (xs.map g))) (hz : xs.length < 100000) (hi : ∀ a ∈ xs, Imm (f a))
    (ht : ∀ a ∈ xs, ∀ v H1, Ex H H1 → Dp K H1 v (g a) → Evl.EvT t ((wipe σ vs).set j (some v)) H1 (c a))
    (he : ∀ a ∈ xs, ∀ v H1, Ex H H1 → Dp K H1 v (g a) → c a = true → EvD K te ((wipe σ vs).set j (some v)) H1 (f a))
    (hw : ∀ x, wipe ((wipe σ vs).set j (some x)) vs = wipe σ vs := by intro _; rfl) : EvN K (tLc (iTup K tl) (gName j) t te vs) σ H ((xs.filter c).map f) := fun H0 e Q q =>
  h H0 e _ fun v H1 e1 hv => by
    obtain ⟨a, ws, rfl, s1, s2⟩ := dp_tup hv
    have hl : ws.length = xs.length := by rw [dpA_len s2, List.length_map]
    refine ⟨a, rfl, ⟨ws, s1⟩, fun D hD => lc_tup (xs := ws) (fun i H' => LcW K H1 D (((xs.take i).filter c).map f) H') ⟨hD, Evl.Ex.new hD, ⟨[], upd_same, .nil⟩, fun d hd => by cases hd⟩ (fun i H' _ p => Evl.ex_t p.2.1 s1) (fun i x H' hx p => ?_) fun H' p => ?_⟩
    · obtain ⟨d, hd, hxd⟩ := dpA_get' s2 hx
      rw [List.getElem?_map] at hd
      obtain ⟨a', ha', rfl⟩ := Option.map_eq_some_iff.mp hd
      have hm := List.mem_of_getElem? ha'
      refine ⟨hw x, lcw_turn (b := c a') (d := f a') p (lcw_size hz) (hi a' hm) (ht a' hm x H' ((e.trans e1).trans p.2.1) (dp_ex p.2.1 hxd)) (fun hc => he a' hm x H' ((e.trans e1).trans p.2.1) (dp_ex p.2.1 hxd) hc) fun H'' k => ?_⟩
      rw [← take_snoc ha' c f] at k
      exact k
    · obtain ⟨p1, p2, p3, _⟩ := p
      rw [hl, List.take_length] at p3
      exact q D H' (Evl.fresh_back e1 p1) (e1.trans p2) p3
/-- a pair is unpacked -/
theorem g_pair {i j : Nat} {v : V} {a b : PyData} {H : Hp} {σ : L2.St} {k : L2.St → Hp → Prop} (hv : Dp K H v (.tuple [a, b])) (h : ∀ x y, Dp K H x a → Dp K H y b → k ((σ.set i (some x)).set j (some y)) H) : gTup K 2 (gCons (gName i) (gCons (gName j) gNil)) v σ H k := by
  obtain ⟨p, xs, rfl, h1, h2⟩ := dp_tup hv
  cases h2 with | cons a1 b1 =>
  cases b1 with | cons a2 b2 =>
  cases b2
  exact ⟨p, _, rfl, h1, rfl, _, _, rfl, _, _, rfl, rfl, h _ _ a1 a2⟩
/-- [e for x, y in xs if c], xs a list of pairs -/
theorem evn_lc2 {i j : Nat} {xs : List α} {g1 g2 : α → PyData} (c : α → Bool) (f : α → PyData) (h : EvD K tl σ H (.list (xs.map fun a => .tuple [g1 a, g2 a]))) (hz : xs.length < 100000) (hi : ∀ a ∈ xs, Imm (f a))
    (ht : ∀ a ∈ xs, ∀ v w H1, Ex H H1 → Dp K H1 v (g1 a) → Dp K H1 w (g2 a) → Evl.EvT t (((wipe σ vs).set i (some v)).set j (some w)) H1 (c a))
    (he : ∀ a ∈ xs, ∀ v w H1, Ex H H1 → Dp K H1 v (g1 a) → Dp K H1 w (g2 a) → c a = true → EvD K te (((wipe σ vs).set i (some v)).set j (some w)) H1 (f a))
    (hw : ∀ x y, wipe (((wipe σ vs).set i (some x)).set j (some y)) vs = wipe σ vs := by intro _ _; rfl) : EvN K (tLc (iList K tl) (gTup K 2 (gCons (gName i) (gCons (gName j) gNil))) t te vs) σ H ((xs.filter c).map f) := fun H0 e Q q =>
  h H0 e _ fun v H1 e1 hv => by
    obtain ⟨a, ws, rfl, s1, s2⟩ := dp_lst hv
    have hl : ws.length = xs.length := by rw [dpA_len s2, List.length_map]
    refine ⟨a, rfl, ⟨ws, s1⟩, fun D hD => lc_list (xs := ws) (fun i H' => LcW K H1 D (((xs.take i).filter c).map f) H') ⟨hD, Evl.Ex.new hD, ⟨[], upd_same, .nil⟩, fun d hd => by cases hd⟩ (fun i H' _ p => Evl.ex_l p.2.1 s1) (fun n x H' hx p => ?_) fun H' p => ?_⟩
    · obtain ⟨d, hd, hxd⟩ := dpA_get' s2 hx
      rw [List.getElem?_map] at hd
      obtain ⟨a', ha', rfl⟩ := Option.map_eq_some_iff.mp hd
      have hm := List.mem_of_getElem? ha'
      refine g_pair (dp_ex p.2.1 hxd) fun y z hy hz2 => ?_
      refine ⟨hw y z, lcw_turn (b := c a') (d := f a') p (lcw_size hz) (hi a' hm) (ht a' hm y z H' ((e.trans e1).trans p.2.1) hy hz2) (fun hc => he a' hm y z H' ((e.trans e1).trans p.2.1) hy hz2 hc) fun H'' k => ?_⟩
      rw [← take_snoc ha' c f] at k
      exact k
    · obtain ⟨p1, p2, p3, _⟩ := p
      rw [hl, List.take_length] at p3
      exact q D H' (Evl.fresh_back e1 p1) (e1.trans p2) p3
theorem evn_lc2T {i j : Nat} {xs : List α} {g1 g2 : α → PyData} (c : α → Bool) (f : α → PyData) (h : EvD K tl σ H (.tuple (xs.map fun a => .tuple [g1 a, g2 a]))) (hz : xs.length < 100000) (hi : ∀ a ∈ xs, Imm (f a))
    (ht : ∀ a ∈ xs, ∀ v w H1, Ex H H1 → Dp K H1 v (g1 a) → Dp K H1 w (g2 a) → Evl.EvT t (((wipe σ vs).set i (some v)).set j (some w)) H1 (c a))
    (he : ∀ a ∈ xs, ∀ v w H1, Ex H H1 → Dp K H1 v (g1 a) → Dp K H1 w (g2 a) → c a = true → EvD K te (((wipe σ vs).set i (some v)).set j (some w)) H1 (f a))
    (hw : ∀ x y, wipe (((wipe σ vs).set i (some x)).set j (some y)) vs = wipe σ vs := by intro _ _; rfl) : EvN K (tLc (iTup K tl) (gTup K 2 (gCons (gName i) (gCons (gName j) gNil))) t te vs) σ H ((xs.filter c).map f) := fun H0 e Q q =>
  h H0 e _ fun v H1 e1 hv => by
    obtain ⟨a, ws, rfl, s1, s2⟩ := dp_tup hv
    have hl : ws.length = xs.length := by rw [dpA_len s2, List.length_map]
    refine ⟨a, rfl, ⟨ws, s1⟩, fun D hD => lc_tup (xs := ws) (fun i H' => LcW K H1 D (((xs.take i).filter c).map f) H') ⟨hD, Evl.Ex.new hD, ⟨[], upd_same, .nil⟩, fun d hd => by cases hd⟩ (fun i H' _ p => Evl.ex_t p.2.1 s1) (fun n x H' hx p => ?_) fun H' p => ?_⟩
    · obtain ⟨d, hd, hxd⟩ := dpA_get' s2 hx
      rw [List.getElem?_map] at hd
      obtain ⟨a', ha', rfl⟩ := Option.map_eq_some_iff.mp hd
      have hm := List.mem_of_getElem? ha'
      refine g_pair (dp_ex p.2.1 hxd) fun y z hy hz2 => ?_
      refine ⟨hw y z, lcw_turn (b := c a') (d := f a') p (lcw_size hz) (hi a' hm) (ht a' hm y z H' ((e.trans e1).trans p.2.1) hy hz2) (fun hc => he a' hm y z H' ((e.trans e1).trans p.2.1) hy hz2 hc) fun H'' k => ?_⟩
      rw [← take_snoc ha' c f] at k
      exact k
    · obtain ⟨p1, p2, p3, _⟩ := p
      rw [hl, List.take_length] at p3
      exact q D H' (Evl.fresh_back e1 p1) (e1.trans p2) p3
theorem et_yes : Evl.EvT tYes σ H true := fun H1 _ Q q => q H1 (Evl.Ex.refl H1)
/-- without a test: all of them -/
theorem filter_true {xs : List α} {f : α → PyData} : (xs.filter fun _ => true).map f = xs.map f := by rw [List.filter_eq_self.mpr fun _ _ => rfl]
end
end Wn

set_option Elab.async false
set_option linter.all false
set_option maxRecDepth 100000
set_option maxHeartbeats 0
/-! The head: where each def stands, the facts of the top, one kernel run. Printed by wip/gen_head.py. -/
namespace Wn
open PySem PySem.Spec PyProof.Rows L2
def top (i : Nat) : Stmt := PySem.Challenge.pw_watchednodes_k36_whole_one_row_is_done.main.body.getD i (.Pass ⟨0, 0, 0, 0⟩)
abbrev s_is_whole : Stmt := top 17
abbrev s_is_word : Stmt := top 18
abbrev s_is_place : Stmt := top 22
abbrev s_first_nodes : Stmt := top 35
abbrev s_is_plain : Stmt := top 34
abbrev s_is_deed : Stmt := top 49
abbrev s_is_entry : Stmt := top 50
abbrev s_first_state : Stmt := top 51
abbrev s_done_deed : Stmt := top 54
abbrev s_done : Stmt := top 56
abbrev s_are_things : Stmt := top 60
abbrev s_is_seek : Stmt := top 62
abbrev s_is_one_place : Stmt := top 63
abbrev s_is_nothing : Stmt := top 64
abbrev s_is_sync : Stmt := top 65
abbrev s_is_propose : Stmt := top 66
abbrev s_is_letter : Stmt := top 70
abbrev s_state_of : Stmt := top 72
abbrev s_is_beginning : Stmt := top 73
abbrev s_up_to : Stmt := top 74
abbrev s_behind : Stmt := top 75
abbrev s_last_place : Stmt := top 76
abbrev s_look_at_members : Stmt := top 80
abbrev s_most_of : Stmt := top 81
abbrev s_may_promise : Stmt := top 82
abbrev s_law_pool : Stmt := top 85
abbrev s_law_take : Stmt := top 86
abbrev s_law_woven : Stmt := top 87
abbrev s_law_start : Stmt := top 88
abbrev s_law_right : Stmt := top 89
abbrev s_law : Stmt := top 90
abbrev m_init : Stmt := inClass (top 83) 0
abbrev m_begin_anew : Stmt := inClass (top 83) 1
abbrev m_stand_down : Stmt := inClass (top 83) 2
abbrev m_others : Stmt := inClass (top 83) 3
abbrev m_last : Stmt := inClass (top 83) 4
abbrev m_has : Stmt := inClass (top 83) 5
abbrev m_say : Stmt := inClass (top 83) 6
abbrev m_go_on_to : Stmt := inClass (top 83) 7
abbrev m_seek : Stmt := inClass (top 83) 9
abbrev m_lead : Stmt := inClass (top 83) 10
abbrev m_leads : Stmt := inClass (top 83) 11
abbrev m_stands_by : Stmt := inClass (top 83) 12
abbrev m_is_settled : Stmt := inClass (top 83) 13
abbrev m_follow : Stmt := inClass (top 83) 14
abbrev m_sync_by : Stmt := inClass (top 83) 15
abbrev m_sync_for : Stmt := inClass (top 83) 16
abbrev m_look_done : Stmt := inClass (top 83) 17
abbrev m_put : Stmt := inClass (top 83) 18
abbrev m_beat : Stmt := inClass (top 83) 22
abbrev m_beat_for : Stmt := inClass (top 83) 23
abbrev m_ends : Stmt := inClass (top 83) 24
abbrev m_take : Stmt := inClass (top 83) 25
abbrev m_on_told : Stmt := inClass (top 83) 26
abbrev m_on_seek : Stmt := inClass (top 83) 27
abbrev m_on_promise : Stmt := inClass (top 83) 28
abbrev m_on_lead : Stmt := inClass (top 83) 29
abbrev m_on_sync : Stmt := inClass (top 83) 30
abbrev m_on_propose : Stmt := inClass (top 83) 31
abbrev m_on_done : Stmt := inClass (top 83) 32
abbrev m_promised : Stmt := inClass (top 83) 37
abbrev m_epoch : Stmt := inClass (top 83) 38
abbrev m_row : Stmt := inClass (top 83) 41
abbrev m_done_row : Stmt := inClass (top 83) 42
def d_is_whole : He.DefD := ⟨("is_whole", none), "is_whole", "is_whole", defArgs s_is_whole, defBody s_is_whole, defScope s_is_whole, [], []⟩
def d_is_word : He.DefD := ⟨("is_word", none), "is_word", "is_word", defArgs s_is_word, defBody s_is_word, defScope s_is_word, [], []⟩
def d_is_place : He.DefD := ⟨("is_place", none), "is_place", "is_place", defArgs s_is_place, defBody s_is_place, defScope s_is_place, [], []⟩
def d_first_nodes : He.DefD := ⟨("first_nodes", none), "first_nodes", "first_nodes", defArgs s_first_nodes, defBody s_first_nodes, defScope s_first_nodes, [], []⟩
def d_is_plain : He.DefD := ⟨("is_plain", none), "is_plain", "is_plain", defArgs s_is_plain, defBody s_is_plain, defScope s_is_plain, [], []⟩
def d_is_deed : He.DefD := ⟨("is_deed", none), "is_deed", "is_deed", defArgs s_is_deed, defBody s_is_deed, defScope s_is_deed, [], []⟩
def d_is_entry : He.DefD := ⟨("is_entry", none), "is_entry", "is_entry", defArgs s_is_entry, defBody s_is_entry, defScope s_is_entry, [], []⟩
def d_first_state : He.DefD := ⟨("first_state", none), "first_state", "first_state", defArgs s_first_state, defBody s_first_state, defScope s_first_state, [], []⟩
def d_done_deed : He.DefD := ⟨("done_deed", none), "done_deed", "done_deed", defArgs s_done_deed, defBody s_done_deed, defScope s_done_deed, [], []⟩
def d_done : He.DefD := ⟨("done_states", none), "done", "done", defArgs s_done, defBody s_done, defScope s_done, [], []⟩
def d_are_things : He.DefD := ⟨("are_things", none), "are_things", "are_things", defArgs s_are_things, defBody s_are_things, defScope s_are_things, [], []⟩
def d_is_seek : He.DefD := ⟨("is_seek", none), "is_seek", "is_seek", defArgs s_is_seek, defBody s_is_seek, defScope s_is_seek, [], []⟩
def d_is_one_place : He.DefD := ⟨("is_one_place", none), "is_one_place", "is_one_place", defArgs s_is_one_place, defBody s_is_one_place, defScope s_is_one_place, [], []⟩
def d_is_nothing : He.DefD := ⟨("is_nothing", none), "is_nothing", "is_nothing", defArgs s_is_nothing, defBody s_is_nothing, defScope s_is_nothing, [], []⟩
def d_is_sync : He.DefD := ⟨("is_sync", none), "is_sync", "is_sync", defArgs s_is_sync, defBody s_is_sync, defScope s_is_sync, [], []⟩
def d_is_propose : He.DefD := ⟨("is_propose", none), "is_propose", "is_propose", defArgs s_is_propose, defBody s_is_propose, defScope s_is_propose, [], []⟩
def d_is_letter : He.DefD := ⟨("is_letter", none), "is_letter", "is_letter", defArgs s_is_letter, defBody s_is_letter, defScope s_is_letter, [], []⟩
def d_state_of : He.DefD := ⟨("state_of", none), "state_of", "state_of", defArgs s_state_of, defBody s_state_of, defScope s_state_of, [], []⟩
def d_is_beginning : He.DefD := ⟨("is_beginning", none), "is_beginning", "is_beginning", defArgs s_is_beginning, defBody s_is_beginning, defScope s_is_beginning, [], []⟩
def d_up_to : He.DefD := ⟨("up_to", none), "up_to", "up_to", defArgs s_up_to, defBody s_up_to, defScope s_up_to, [], []⟩
def d_behind : He.DefD := ⟨("behind", none), "behind", "behind", defArgs s_behind, defBody s_behind, defScope s_behind, [], []⟩
def d_last_place : He.DefD := ⟨("last_place", none), "last_place", "last_place", defArgs s_last_place, defBody s_last_place, defScope s_last_place, [], []⟩
def d_look_at_members : He.DefD := ⟨("look_at_members", none), "look_at_members", "look_at_members", defArgs s_look_at_members, defBody s_look_at_members, defScope s_look_at_members, [], []⟩
def d_most_of : He.DefD := ⟨("most_of", none), "most_of", "most_of", defArgs s_most_of, defBody s_most_of, defScope s_most_of, [], []⟩
def d_may_promise : He.DefD := ⟨("may_promise", none), "may_promise", "may_promise", defArgs s_may_promise, defBody s_may_promise, defScope s_may_promise, [], []⟩
def d_law_pool : He.DefD := ⟨("_law_pool", none), "_law_pool", "_law_pool", defArgs s_law_pool, defBody s_law_pool, defScope s_law_pool, [], []⟩
def d_law_take : He.DefD := ⟨("_law_take", none), "_law_take", "_law_take", defArgs s_law_take, defBody s_law_take, defScope s_law_take, [], []⟩
def d_law_woven : He.DefD := ⟨("_law_woven", none), "_law_woven", "_law_woven", defArgs s_law_woven, defBody s_law_woven, defScope s_law_woven, [], []⟩
def d_law_start : He.DefD := ⟨("_law_start", none), "_law_start", "_law_start", defArgs s_law_start, defBody s_law_start, defScope s_law_start, [], []⟩
def d_law_right : He.DefD := ⟨("_law_right", none), "_law_right", "_law_right", defArgs s_law_right, defBody s_law_right, defScope s_law_right, [], []⟩
def d_law : He.DefD := ⟨("law", none), "law", "law", defArgs s_law, defBody s_law, defScope s_law, [], []⟩
def e_init : He.DefD := ⟨("House", some "__init__"), "__init__", "House.__init__", defArgs m_init, defBody m_init, defScope m_init, [], [("looks", .str "all")]⟩
def e_begin_anew : He.DefD := ⟨("House", some "begin_anew"), "begin_anew", "House.begin_anew", defArgs m_begin_anew, defBody m_begin_anew, defScope m_begin_anew, [], []⟩
def e_stand_down : He.DefD := ⟨("House", some "stand_down"), "stand_down", "House.stand_down", defArgs m_stand_down, defBody m_stand_down, defScope m_stand_down, [], []⟩
def e_others : He.DefD := ⟨("House", some "others"), "others", "House.others", defArgs m_others, defBody m_others, defScope m_others, [], []⟩
def e_last : He.DefD := ⟨("House", some "last"), "last", "House.last", defArgs m_last, defBody m_last, defScope m_last, [], []⟩
def e_has : He.DefD := ⟨("House", some "has"), "has", "House.has", defArgs m_has, defBody m_has, defScope m_has, [], []⟩
def e_say : He.DefD := ⟨("House", some "say"), "say", "House.say", defArgs m_say, defBody m_say, defScope m_say, [.adr (fun K => He.dflAt ("House", some "say") 0 K)], []⟩
def e_go_on_to : He.DefD := ⟨("House", some "go_on_to"), "go_on_to", "House.go_on_to", defArgs m_go_on_to, defBody m_go_on_to, defScope m_go_on_to, [], []⟩
def e_seek : He.DefD := ⟨("House", some "seek"), "seek", "House.seek", defArgs m_seek, defBody m_seek, defScope m_seek, [], []⟩
def e_lead : He.DefD := ⟨("House", some "lead"), "lead", "House.lead", defArgs m_lead, defBody m_lead, defScope m_lead, [], []⟩
def e_leads : He.DefD := ⟨("House", some "leads"), "leads", "House.leads", defArgs m_leads, defBody m_leads, defScope m_leads, [], []⟩
def e_stands_by : He.DefD := ⟨("House", some "stands_by"), "stands_by", "House.stands_by", defArgs m_stands_by, defBody m_stands_by, defScope m_stands_by, [], []⟩
def e_is_settled : He.DefD := ⟨("House", some "is_settled"), "is_settled", "House.is_settled", defArgs m_is_settled, defBody m_is_settled, defScope m_is_settled, [], []⟩
def e_follow : He.DefD := ⟨("House", some "follow"), "follow", "House.follow", defArgs m_follow, defBody m_follow, defScope m_follow, [], []⟩
def e_sync_by : He.DefD := ⟨("House", some "sync_by"), "sync_by", "House.sync_by", defArgs m_sync_by, defBody m_sync_by, defScope m_sync_by, [], []⟩
def e_sync_for : He.DefD := ⟨("House", some "sync_for"), "sync_for", "House.sync_for", defArgs m_sync_for, defBody m_sync_for, defScope m_sync_for, [], []⟩
def e_look_done : He.DefD := ⟨("House", some "look_done"), "look_done", "House.look_done", defArgs m_look_done, defBody m_look_done, defScope m_look_done, [], []⟩
def e_put : He.DefD := ⟨("House", some "put"), "put", "House.put", defArgs m_put, defBody m_put, defScope m_put, [], []⟩
def e_beat : He.DefD := ⟨("House", some "beat"), "beat", "House.beat", defArgs m_beat, defBody m_beat, defScope m_beat, [], []⟩
def e_beat_for : He.DefD := ⟨("House", some "beat_for"), "beat_for", "House.beat_for", defArgs m_beat_for, defBody m_beat_for, defScope m_beat_for, [], []⟩
def e_ends : He.DefD := ⟨("House", some "ends"), "ends", "House.ends", defArgs m_ends, defBody m_ends, defScope m_ends, [], []⟩
def e_take : He.DefD := ⟨("House", some "take"), "take", "House.take", defArgs m_take, defBody m_take, defScope m_take, [], []⟩
def e_on_told : He.DefD := ⟨("House", some "on_told"), "on_told", "House.on_told", defArgs m_on_told, defBody m_on_told, defScope m_on_told, [], []⟩
def e_on_seek : He.DefD := ⟨("House", some "on_seek"), "on_seek", "House.on_seek", defArgs m_on_seek, defBody m_on_seek, defScope m_on_seek, [], []⟩
def e_on_promise : He.DefD := ⟨("House", some "on_promise"), "on_promise", "House.on_promise", defArgs m_on_promise, defBody m_on_promise, defScope m_on_promise, [], []⟩
def e_on_lead : He.DefD := ⟨("House", some "on_lead"), "on_lead", "House.on_lead", defArgs m_on_lead, defBody m_on_lead, defScope m_on_lead, [], []⟩
def e_on_sync : He.DefD := ⟨("House", some "on_sync"), "on_sync", "House.on_sync", defArgs m_on_sync, defBody m_on_sync, defScope m_on_sync, [], []⟩
def e_on_propose : He.DefD := ⟨("House", some "on_propose"), "on_propose", "House.on_propose", defArgs m_on_propose, defBody m_on_propose, defScope m_on_propose, [], []⟩
def e_on_done : He.DefD := ⟨("House", some "on_done"), "on_done", "House.on_done", defArgs m_on_done, defBody m_on_done, defScope m_on_done, [], []⟩
def e_promised : He.DefD := ⟨("House", some "promised"), "promised", "House.promised", defArgs m_promised, defBody m_promised, defScope m_promised, [], []⟩
def e_epoch : He.DefD := ⟨("House", some "epoch"), "epoch", "House.epoch", defArgs m_epoch, defBody m_epoch, defScope m_epoch, [], []⟩
def e_row : He.DefD := ⟨("House", some "row"), "row", "House.row", defArgs m_row, defBody m_row, defScope m_row, [], []⟩
def e_done_row : He.DefD := ⟨("House", some "done_row"), "done_row", "House.done_row", defArgs m_done_row, defBody m_done_row, defScope m_done_row, [], []⟩
def fn : List He.DefD := [d_is_whole, d_is_word, d_is_place, d_first_nodes, d_is_plain, d_is_deed, d_is_entry, d_first_state, d_done_deed, d_done, d_are_things, d_is_seek, d_is_one_place, d_is_nothing, d_is_sync, d_is_propose, d_is_letter, d_state_of, d_is_beginning, d_up_to, d_behind, d_last_place, d_look_at_members, d_most_of, d_may_promise, d_law_pool, d_law_take, d_law_woven, d_law_start, d_law_right, d_law, e_init] ++ [e_begin_anew, e_stand_down, e_others, e_last, e_has, e_say, e_go_on_to, e_seek, e_lead, e_leads, e_stands_by, e_is_settled, e_follow, e_sync_by, e_sync_for, e_look_done, e_put, e_beat, e_beat_for, e_ends, e_take, e_on_told, e_on_seek, e_on_promise, e_on_lead, e_on_sync, e_on_propose, e_on_done, e_promised, e_epoch, e_row, e_done_row]
def fa : List He.Fa := ([.glo "is_whole", .glo "is_word", .glo "is_place", .glo "first_nodes", .glo "is_plain", .glo "is_deed", .glo "is_entry", .glo "first_state", .glo "done_deed", .glo "done_states", .glo "are_things", .glo "is_seek", .glo "is_one_place", .glo "is_nothing", .glo "is_sync", .glo "is_propose", .glo "is_letter", .glo "state_of", .glo "is_beginning", .glo "up_to", .glo "behind", .glo "last_place", .glo "look_at_members", .glo "most_of", .glo "may_promise", .glo "_law_pool", .glo "_law_take", .glo "_law_woven", .glo "_law_start", .glo "_law_right", .glo "law", .free "isinstance"] : List He.Fa) ++ ([.free "int", .free "bool", .free "str", .free "tuple", .free "len", .free "all", .free "dict", .free "list", .free "set", .free "max", .free "min", .free "sorted", .free "zip", .free "repr", .free "range", .str "LETTERS" "abcdefghijklmnopqrstuvwxyz", .int "LONGEST" 8, .int "MOST_MEMBERS" 7, .str "ROOT" "/", .glo "NOWHERE", .glo "NEVER", .glo "WAYS", .glo "LOOKS", .glo "FORMS", .glo "House", .cls "House", .mkr "House", .noat "House" "own_name", .noat "House" "own_members", .noat "House" "own_looks", .noat "House" "own_promised", .noat "House" "own_epoch"] : List He.Fa) ++ ([.noat "House" "own_row", .noat "House" "own_done", .noat "House" "own_state", .noat "House" "fresh", .noat "House" "own_role", .noat "House" "own_head", .noat "House" "sought", .noat "House" "promises", .noat "House" "taken", .noat "House" "own_clock", .noat "House" "heard_at", .meth "House" "__init__", .meth "House" "begin_anew", .meth "House" "stand_down", .meth "House" "others", .meth "House" "last", .meth "House" "has", .meth "House" "say", .meth "House" "go_on_to", .meth "House" "seek", .meth "House" "lead", .meth "House" "leads", .meth "House" "stands_by", .meth "House" "is_settled", .meth "House" "follow", .meth "House" "sync_by", .meth "House" "sync_for", .meth "House" "look_done", .meth "House" "put", .meth "House" "beat", .meth "House" "beat_for", .meth "House" "ends"] : List He.Fa) ++ ([.meth "House" "take", .meth "House" "on_told", .meth "House" "on_seek", .meth "House" "on_promise", .meth "House" "on_lead", .meth "House" "on_sync", .meth "House" "on_propose", .meth "House" "on_done", .meth "House" "promised", .meth "House" "epoch", .meth "House" "row", .meth "House" "done_row"] : List He.Fa)
def asL : List Addr := mainGlobals :: (([169, 168, 174, 173, 196, 195, 251, 250, 244, 243, 310, 309, 317, 316, 324, 323, 343, 342, 355, 354, 361, 360, 375, 374, 382, 381, 389, 388, 396, 395, 403, 402] : List Addr) ++ ([425, 424, 432, 431, 439, 438, 444, 443, 449, 448, 456, 455, 462, 461, 469, 468, 476, 475, 806, 805, 813, 812, 820, 819, 825, 824, 830, 829, 837, 836, 162, 305] : List Addr) ++ ([356, 457, 418, 795, 794, 491, 490, 484, 498, 497, 505, 504, 510, 509, 517, 516, 522, 521, 531, 530, 524, 538, 537, 550, 549, 555, 554, 562, 561, 569, 568, 576] : List Addr) ++ ([575, 583, 582, 590, 589, 595, 594, 600, 599, 605, 604, 631, 630, 638, 637, 645, 644, 652, 651, 659, 658, 666, 665, 673, 672, 680, 679, 687, 686, 694, 693, 701] : List Addr) ++ ([700, 736, 735, 743, 742, 764, 763, 771, 770, 523] : List Addr))
def ts : List He.Tab := [(fun K => He.ga K "FORMS", ["seek", "promise", "lead", "sync", "lack", "synced", "propose", "took", "done", "forward", "touch"])]
def fv : List (Str × He.Dv) := [("seek", .glo "is_seek"), ("promise", .glo "is_one_place"), ("lead", .glo "is_nothing"), ("sync", .glo "is_sync"), ("lack", .glo "is_nothing"), ("synced", .glo "is_one_place"), ("propose", .glo "is_propose"), ("took", .glo "is_one_place"), ("done", .glo "is_one_place")]
def dfl0 (K : PySem.W.Frag) : Bool := match K.lookup (He.dflAt ("House", some "say") 0 K) with
  | some ⟨.type c, _, .seq its _, _⟩ => decide (c = "tuple") && decide (its.size = 0)
  | _ => false
def ex (K : PySem.W.Frag) : Bool := dfl0 K && (He.tupB K "NOWHERE" [.int 0, .int 0] && (He.tupB K "NEVER" [.non, .int 0, .non, .glo "NOWHERE"] && (He.tupB K "WAYS" [.str "more", .str "cut", .str "all"] && (He.tupB K "LOOKS" [.str "all", .str "epoch", .str "none"] && He.valsB K (He.ga K "FORMS") fv))))
abbrev R : PySem.W.OpenRow := PySem.W.OpenLaw.row PySem.Challenge.rw_watchednodes_k36_whole_one_row_is_done
/-- the Hook: the facts over the objects at asL alone -/
def obsL (g : Addr → Option Obj) : He.AlX := (He.obsT fa fn ts (He.frG g asL), ex (He.frG g asL))
def hk : PySem.W.Hook where
  α := He.AlX
  obs := fun s => obsL s.heap.get?
  val := fun w => (He.valT fn ts w, true)
  says := fun w h => ∃ K : PySem.W.Frag, K.In h ∧ He.SaysT fa fn ts w K ∧ ex K = true
  of := fun _ _ e => ⟨_, He.frG_in, congrArg (fun z : He.AlX => z.1) e, congrArg (fun z : He.AlX => z.2) e⟩
  keeps := fun _ _ _ ⟨K, hK, c, d⟩ k => ⟨K, PySem.W.Frag.In.keeps hK k, c, d⟩
def ob (s : PySem.W.SharedT) : He.AlX := obsL (HandSHeadRun.getT s)
theorem ob_eq (s : PySem.W.SharedT) : ob s = hk.obs s.abs := by
  have e : HandSHeadRun.getT s = s.abs.heap.get? := funext (HandSHeadRun.getT_eq s)
  show obsL (HandSHeadRun.getT s) = obsL s.abs.heap.get?
  rw [e]
def loose : List PySem.Str := (["_wall", "NoDeed", "NoEntry", "NoMembers", "NoLooks", "NoLetter", "NoHouse", "NotHead", "LETTERS", "FIGURES", "LONGEST", "MOST_PARTS", "MANY_FIGURES", "ROOT", "NOWHERE", "is_whole", "is_word", "is_part", "parts_of", "is_path", "is_place", "path_of", "parent_of", "last_part", "MOST_NODES", "MOST_MADE", "MOST_TEXT", "LONG", "is_text", "is_count", "is_make", "is_plain"] : List PySem.Str) ++ (["first_nodes", "kids_of", "refused", "numbered_path", "make", "put", "dropped", "drop", "done_plain", "MOST_DEEDS", "MOST_LIMIT", "OK", "NEVER", "is_deed", "is_entry", "first_state", "without_owner", "done_all", "done_deed", "ended", "done", "done_states", "WAYS", "are_things", "is_ask", "is_seek", "is_one_place", "is_nothing", "is_sync", "is_propose", "is_forward", "is_touch"] : List PySem.Str) ++ (["FORMS", "is_letter", "state_of", "is_beginning", "up_to", "behind", "last_place", "MOST_MEMBERS", "LOOKS", "look_at_members", "most_of", "may_promise", "House", "_law_pool", "_law_take", "_law_woven", "_law_start", "_law_right"] : List PySem.Str)
theorem run_f (w : World) : HandSHeadRun.RunEq R (PySem.W.view R.prog [90]) hk ob 8000 loose (w.withFollow "special-get-raises" false) := by
  intro os
  kernel_rfl
theorem run_t (w : World) : HandSHeadRun.RunEq R (PySem.W.view R.prog [90]) hk ob 8000 loose (w.withFollow "special-get-raises" true) := by
  intro os
  kernel_rfl
theorem run (w : World) : HandSHeadRun.RunEq R (PySem.W.view R.prog [90]) hk ob 8000 loose w :=
  PySem.W.byRow2 "special-get-raises" (P := fun w => HandSHeadRun.RunEq R (PySem.W.view R.prog [90]) hk ob 8000 loose w) run_f run_t w
end Wn

set_option Elab.async false
set_option linter.all false
set_option maxRecDepth 100000
set_option maxHeartbeats 4000000
/-! The head's facts by name; defs as callees. Printed by wip/gen_facts.py. -/
namespace Wn
open PySem PySem.Spec PyProof.Rows L2
open Zab hiding World Place Row
structure TX (w : World) (K : PySem.W.Frag) (mg : Str → Option Value) : Prop where
  says : He.SaysT fa fn ts w K
  more : ex K = true
  hp : ∃ h : Heap, K.In h ∧ h.Ns mainGlobals mg
abbrev CH (K : PySem.W.Frag) : Addr := He.ga K "House"
section
variable {P : Program} {w : World} {K : PySem.W.Frag} {mg : Str → Option Value} {base : Heap}
theorem TX.fact (T : TX w K mg) (i : Nat) {f : He.Fa} (h : fa[i]? = some f := by rfl) : f.ok K = true := T.says.d.fact i h
theorem TX.glo (T : TX w K mg) (i : Nat) {x : Str} (h : fa[i]? = some (.glo x) := by rfl) : mg x = some (.ref (He.ga K x)) := by
  obtain ⟨hh, X, G⟩ := T.hp
  exact He.glo_ok X G (T.fact i h)
theorem TX.free (T : TX w K mg) (i : Nat) {x : Str} (h : fa[i]? = some (.free x) := by rfl) : mg x = none := by
  obtain ⟨hh, X, G⟩ := T.hp
  exact He.free_ok X G (T.fact i h)
theorem TX.int (T : TX w K mg) (i : Nat) {x : Str} {n : Int} (h : fa[i]? = some (.int x n) := by rfl) : ∃ t, mg x = some (.int n t) := by
  obtain ⟨hh, X, G⟩ := T.hp
  exact He.int_ok X G (T.fact i h)
theorem TX.str (T : TX w K mg) (i : Nat) {x z : Str} (h : fa[i]? = some (.str x z) := by rfl) : ∃ t, mg x = some (.str z t) := by
  obtain ⟨hh, X, G⟩ := T.hp
  exact He.str_ok X G (T.fact i h)
theorem TX.noat (T : TX w K mg) (i : Nat) {f : Str} (h : fa[i]? = some (.noat "House" f) := by rfl) : NoAttr K (CH K) f := He.noat_ok (T.fact i h)
theorem TX.meth (T : TX w K mg) (i : Nat) {m : Str} (h : fa[i]? = some (.meth "House" m) := by rfl) : Meth K (CH K) m (He.ma K (CH K) m) := He.meth_ok (T.fact i h)
theorem TX.g_is_whole (T : TX w K mg) : mg "is_whole" = some (.ref (He.ga K "is_whole")) := T.glo 0
theorem TX.g_is_word (T : TX w K mg) : mg "is_word" = some (.ref (He.ga K "is_word")) := T.glo 1
theorem TX.g_is_place (T : TX w K mg) : mg "is_place" = some (.ref (He.ga K "is_place")) := T.glo 2
theorem TX.g_first_nodes (T : TX w K mg) : mg "first_nodes" = some (.ref (He.ga K "first_nodes")) := T.glo 3
theorem TX.g_is_plain (T : TX w K mg) : mg "is_plain" = some (.ref (He.ga K "is_plain")) := T.glo 4
theorem TX.g_is_deed (T : TX w K mg) : mg "is_deed" = some (.ref (He.ga K "is_deed")) := T.glo 5
theorem TX.g_is_entry (T : TX w K mg) : mg "is_entry" = some (.ref (He.ga K "is_entry")) := T.glo 6
theorem TX.g_first_state (T : TX w K mg) : mg "first_state" = some (.ref (He.ga K "first_state")) := T.glo 7
theorem TX.g_done_deed (T : TX w K mg) : mg "done_deed" = some (.ref (He.ga K "done_deed")) := T.glo 8
theorem TX.g_done_states (T : TX w K mg) : mg "done_states" = some (.ref (He.ga K "done_states")) := T.glo 9
theorem TX.g_are_things (T : TX w K mg) : mg "are_things" = some (.ref (He.ga K "are_things")) := T.glo 10
theorem TX.g_is_seek (T : TX w K mg) : mg "is_seek" = some (.ref (He.ga K "is_seek")) := T.glo 11
theorem TX.g_is_one_place (T : TX w K mg) : mg "is_one_place" = some (.ref (He.ga K "is_one_place")) := T.glo 12
theorem TX.g_is_nothing (T : TX w K mg) : mg "is_nothing" = some (.ref (He.ga K "is_nothing")) := T.glo 13
theorem TX.g_is_sync (T : TX w K mg) : mg "is_sync" = some (.ref (He.ga K "is_sync")) := T.glo 14
theorem TX.g_is_propose (T : TX w K mg) : mg "is_propose" = some (.ref (He.ga K "is_propose")) := T.glo 15
theorem TX.g_is_letter (T : TX w K mg) : mg "is_letter" = some (.ref (He.ga K "is_letter")) := T.glo 16
theorem TX.g_state_of (T : TX w K mg) : mg "state_of" = some (.ref (He.ga K "state_of")) := T.glo 17
theorem TX.g_is_beginning (T : TX w K mg) : mg "is_beginning" = some (.ref (He.ga K "is_beginning")) := T.glo 18
theorem TX.g_up_to (T : TX w K mg) : mg "up_to" = some (.ref (He.ga K "up_to")) := T.glo 19
theorem TX.g_behind (T : TX w K mg) : mg "behind" = some (.ref (He.ga K "behind")) := T.glo 20
theorem TX.g_last_place (T : TX w K mg) : mg "last_place" = some (.ref (He.ga K "last_place")) := T.glo 21
theorem TX.g_look_at_members (T : TX w K mg) : mg "look_at_members" = some (.ref (He.ga K "look_at_members")) := T.glo 22
theorem TX.g_most_of (T : TX w K mg) : mg "most_of" = some (.ref (He.ga K "most_of")) := T.glo 23
theorem TX.g_may_promise (T : TX w K mg) : mg "may_promise" = some (.ref (He.ga K "may_promise")) := T.glo 24
theorem TX.g_law_pool (T : TX w K mg) : mg "_law_pool" = some (.ref (He.ga K "_law_pool")) := T.glo 25
theorem TX.g_law_take (T : TX w K mg) : mg "_law_take" = some (.ref (He.ga K "_law_take")) := T.glo 26
theorem TX.g_law_woven (T : TX w K mg) : mg "_law_woven" = some (.ref (He.ga K "_law_woven")) := T.glo 27
theorem TX.g_law_start (T : TX w K mg) : mg "_law_start" = some (.ref (He.ga K "_law_start")) := T.glo 28
theorem TX.g_law_right (T : TX w K mg) : mg "_law_right" = some (.ref (He.ga K "_law_right")) := T.glo 29
theorem TX.g_law (T : TX w K mg) : mg "law" = some (.ref (He.ga K "law")) := T.glo 30
theorem TX.b_isinstance (T : TX w K mg) : mg "isinstance" = none := T.free 31
theorem TX.b_int (T : TX w K mg) : mg "int" = none := T.free 32
theorem TX.b_bool (T : TX w K mg) : mg "bool" = none := T.free 33
theorem TX.b_str (T : TX w K mg) : mg "str" = none := T.free 34
theorem TX.b_tuple (T : TX w K mg) : mg "tuple" = none := T.free 35
theorem TX.b_len (T : TX w K mg) : mg "len" = none := T.free 36
theorem TX.b_all (T : TX w K mg) : mg "all" = none := T.free 37
theorem TX.b_dict (T : TX w K mg) : mg "dict" = none := T.free 38
theorem TX.b_list (T : TX w K mg) : mg "list" = none := T.free 39
theorem TX.b_set (T : TX w K mg) : mg "set" = none := T.free 40
theorem TX.b_max (T : TX w K mg) : mg "max" = none := T.free 41
theorem TX.b_min (T : TX w K mg) : mg "min" = none := T.free 42
theorem TX.b_sorted (T : TX w K mg) : mg "sorted" = none := T.free 43
theorem TX.b_zip (T : TX w K mg) : mg "zip" = none := T.free 44
theorem TX.b_repr (T : TX w K mg) : mg "repr" = none := T.free 45
theorem TX.b_range (T : TX w K mg) : mg "range" = none := T.free 46
theorem TX.v_LETTERS (T : TX w K mg) : ∃ t, mg "LETTERS" = some (.str "abcdefghijklmnopqrstuvwxyz" t) := T.str 47
theorem TX.v_LONGEST (T : TX w K mg) : ∃ t, mg "LONGEST" = some (.int 8 t) := T.int 48
theorem TX.v_MOST_MEMBERS (T : TX w K mg) : ∃ t, mg "MOST_MEMBERS" = some (.int 7 t) := T.int 49
theorem TX.v_ROOT (T : TX w K mg) : ∃ t, mg "ROOT" = some (.str "/" t) := T.str 50
theorem TX.g_NOWHERE (T : TX w K mg) : mg "NOWHERE" = some (.ref (He.ga K "NOWHERE")) := T.glo 51
theorem TX.g_NEVER (T : TX w K mg) : mg "NEVER" = some (.ref (He.ga K "NEVER")) := T.glo 52
theorem TX.g_WAYS (T : TX w K mg) : mg "WAYS" = some (.ref (He.ga K "WAYS")) := T.glo 53
theorem TX.g_LOOKS (T : TX w K mg) : mg "LOOKS" = some (.ref (He.ga K "LOOKS")) := T.glo 54
theorem TX.g_FORMS (T : TX w K mg) : mg "FORMS" = some (.ref (He.ga K "FORMS")) := T.glo 55
theorem TX.g_House (T : TX w K mg) : mg "House" = some (.ref (He.ga K "House")) := T.glo 56
theorem TX.cls (T : TX w K mg) : Cls K (CH K) := He.cls_ok (T.fact 57 (f := .cls "House"))
theorem TX.mkr (T : TX w K mg) : Mk K (CH K) (He.ma K (CH K) "__init__") := He.mkr_ok (T.fact 58 (f := .mkr "House"))
theorem TX.a_own_name (T : TX w K mg) : NoAttr K (CH K) "own_name" := T.noat 59
theorem TX.a_own_members (T : TX w K mg) : NoAttr K (CH K) "own_members" := T.noat 60
theorem TX.a_own_looks (T : TX w K mg) : NoAttr K (CH K) "own_looks" := T.noat 61
theorem TX.a_own_promised (T : TX w K mg) : NoAttr K (CH K) "own_promised" := T.noat 62
theorem TX.a_own_epoch (T : TX w K mg) : NoAttr K (CH K) "own_epoch" := T.noat 63
theorem TX.a_own_row (T : TX w K mg) : NoAttr K (CH K) "own_row" := T.noat 64
theorem TX.a_own_done (T : TX w K mg) : NoAttr K (CH K) "own_done" := T.noat 65
theorem TX.a_own_state (T : TX w K mg) : NoAttr K (CH K) "own_state" := T.noat 66
theorem TX.a_fresh (T : TX w K mg) : NoAttr K (CH K) "fresh" := T.noat 67
theorem TX.a_own_role (T : TX w K mg) : NoAttr K (CH K) "own_role" := T.noat 68
theorem TX.a_own_head (T : TX w K mg) : NoAttr K (CH K) "own_head" := T.noat 69
theorem TX.a_sought (T : TX w K mg) : NoAttr K (CH K) "sought" := T.noat 70
theorem TX.a_promises (T : TX w K mg) : NoAttr K (CH K) "promises" := T.noat 71
theorem TX.a_taken (T : TX w K mg) : NoAttr K (CH K) "taken" := T.noat 72
theorem TX.a_own_clock (T : TX w K mg) : NoAttr K (CH K) "own_clock" := T.noat 73
theorem TX.a_heard_at (T : TX w K mg) : NoAttr K (CH K) "heard_at" := T.noat 74
theorem TX.m_begin_anew (T : TX w K mg) : Meth K (CH K) "begin_anew" (He.ma K (CH K) "begin_anew") := T.meth 76
theorem TX.m_stand_down (T : TX w K mg) : Meth K (CH K) "stand_down" (He.ma K (CH K) "stand_down") := T.meth 77
theorem TX.m_others (T : TX w K mg) : Meth K (CH K) "others" (He.ma K (CH K) "others") := T.meth 78
theorem TX.m_last (T : TX w K mg) : Meth K (CH K) "last" (He.ma K (CH K) "last") := T.meth 79
theorem TX.m_has (T : TX w K mg) : Meth K (CH K) "has" (He.ma K (CH K) "has") := T.meth 80
theorem TX.m_say (T : TX w K mg) : Meth K (CH K) "say" (He.ma K (CH K) "say") := T.meth 81
theorem TX.m_go_on_to (T : TX w K mg) : Meth K (CH K) "go_on_to" (He.ma K (CH K) "go_on_to") := T.meth 82
theorem TX.m_seek (T : TX w K mg) : Meth K (CH K) "seek" (He.ma K (CH K) "seek") := T.meth 83
theorem TX.m_lead (T : TX w K mg) : Meth K (CH K) "lead" (He.ma K (CH K) "lead") := T.meth 84
theorem TX.m_leads (T : TX w K mg) : Meth K (CH K) "leads" (He.ma K (CH K) "leads") := T.meth 85
theorem TX.m_stands_by (T : TX w K mg) : Meth K (CH K) "stands_by" (He.ma K (CH K) "stands_by") := T.meth 86
theorem TX.m_is_settled (T : TX w K mg) : Meth K (CH K) "is_settled" (He.ma K (CH K) "is_settled") := T.meth 87
theorem TX.m_follow (T : TX w K mg) : Meth K (CH K) "follow" (He.ma K (CH K) "follow") := T.meth 88
theorem TX.m_sync_by (T : TX w K mg) : Meth K (CH K) "sync_by" (He.ma K (CH K) "sync_by") := T.meth 89
theorem TX.m_sync_for (T : TX w K mg) : Meth K (CH K) "sync_for" (He.ma K (CH K) "sync_for") := T.meth 90
theorem TX.m_look_done (T : TX w K mg) : Meth K (CH K) "look_done" (He.ma K (CH K) "look_done") := T.meth 91
theorem TX.m_put (T : TX w K mg) : Meth K (CH K) "put" (He.ma K (CH K) "put") := T.meth 92
theorem TX.m_beat (T : TX w K mg) : Meth K (CH K) "beat" (He.ma K (CH K) "beat") := T.meth 93
theorem TX.m_beat_for (T : TX w K mg) : Meth K (CH K) "beat_for" (He.ma K (CH K) "beat_for") := T.meth 94
theorem TX.m_ends (T : TX w K mg) : Meth K (CH K) "ends" (He.ma K (CH K) "ends") := T.meth 95
theorem TX.m_take (T : TX w K mg) : Meth K (CH K) "take" (He.ma K (CH K) "take") := T.meth 96
theorem TX.m_on_told (T : TX w K mg) : Meth K (CH K) "on_told" (He.ma K (CH K) "on_told") := T.meth 97
theorem TX.m_on_seek (T : TX w K mg) : Meth K (CH K) "on_seek" (He.ma K (CH K) "on_seek") := T.meth 98
theorem TX.m_on_promise (T : TX w K mg) : Meth K (CH K) "on_promise" (He.ma K (CH K) "on_promise") := T.meth 99
theorem TX.m_on_lead (T : TX w K mg) : Meth K (CH K) "on_lead" (He.ma K (CH K) "on_lead") := T.meth 100
theorem TX.m_on_sync (T : TX w K mg) : Meth K (CH K) "on_sync" (He.ma K (CH K) "on_sync") := T.meth 101
theorem TX.m_on_propose (T : TX w K mg) : Meth K (CH K) "on_propose" (He.ma K (CH K) "on_propose") := T.meth 102
theorem TX.m_on_done (T : TX w K mg) : Meth K (CH K) "on_done" (He.ma K (CH K) "on_done") := T.meth 103
theorem TX.m_promised (T : TX w K mg) : Meth K (CH K) "promised" (He.ma K (CH K) "promised") := T.meth 104
theorem TX.m_epoch (T : TX w K mg) : Meth K (CH K) "epoch" (He.ma K (CH K) "epoch") := T.meth 105
theorem TX.m_row (T : TX w K mg) : Meth K (CH K) "row" (He.ma K (CH K) "row") := T.meth 106
theorem TX.m_done_row (T : TX w K mg) : Meth K (CH K) "done_row" (He.ma K (CH K) "done_row") := T.meth 107
/-! ### the written tuples and the table -/
theorem TX.more4 (T : TX w K mg) : He.tupB K "NOWHERE" [.int 0, .int 0] = true ∧ He.tupB K "NEVER" [.non, .int 0, .non, .glo "NOWHERE"] = true ∧ He.tupB K "WAYS" [.str "more", .str "cut", .str "all"] = true ∧ He.tupB K "LOOKS" [.str "all", .str "epoch", .str "none"] = true ∧ He.valsB K (He.ga K "FORMS") fv = true := by
  obtain ⟨_, h⟩ := He.ba T.more
  obtain ⟨h1, h⟩ := He.ba h
  obtain ⟨h2, h⟩ := He.ba h
  obtain ⟨h3, h⟩ := He.ba h
  obtain ⟨h4, h5⟩ := He.ba h
  exact ⟨h1, h2, h3, h4, h5⟩
theorem TX.dfl (T : TX w K mg) (H : Hp) : Dp K H (.ref (He.dflAt ("House", some "say") 0 K)) (.tuple []) := by
  have h : dfl0 K = true := (He.ba T.more).1
  unfold dfl0 at h
  cases q : K.lookup (He.dflAt ("House", some "say") 0 K) with
  | none => rw [q] at h; cases h
  | some o =>
    obtain ⟨oc, od, dt, osl⟩ := o
    rw [q] at h
    cases oc with
    | type c =>
      cases dt with
      | seq its n =>
        obtain ⟨h1, h2⟩ := He.ba (show (decide (c = "tuple") && decide (its.size = 0)) = true from h)
        have h1 := of_decide_eq_true h1
        have h2 := of_decide_eq_true h2
        have h3 : its.toList = [] := List.length_eq_zero_iff.mp (by rw [Array.length_toList]; exact h2)
        subst h1
        exact .tup (.inr ⟨_, its, n, q, rfl, rfl, by rw [h2]; exact Nat.zero_le _, by rw [h3]; exact .nil⟩) .nil
      | _ => cases h
    | _ => cases h
theorem TX.nowhere (T : TX w K mg) (H : Hp) : Dp K H (.ref (He.ga K "NOWHERE")) (dP (0, 0)) := .tup (He.tupB_ok T.more4.1 H) (.cons (.int _) (.cons (.int _) .nil))
theorem TX.never (T : TX w K mg) (H : Hp) : Dp K H (.ref (He.ga K "NEVER")) (.tuple [.none, .int 0, .none, dP (0, 0)]) := .tup (He.tupB_ok T.more4.2.1 H) (.cons .non (.cons (.int _) (.cons .non (.cons (T.nowhere H) .nil))))
theorem TX.ways (T : TX w K mg) (H : Hp) : Dp K H (.ref (He.ga K "WAYS")) (.tuple (([("more" : Str), "cut", "all"] : List Str).map .str)) := .tup (He.tupB_ok T.more4.2.2.1 H) (.cons (.str _) (.cons (.str _) (.cons (.str _) .nil)))
theorem TX.looks (T : TX w K mg) (H : Hp) : Dp K H (.ref (He.ga K "LOOKS")) (.tuple (([("all" : Str), "epoch", "none"] : List Str).map .str)) := .tup (He.tupB_ok T.more4.2.2.2.1 H) (.cons (.str _) (.cons (.str _) (.cons (.str _) .nil)))
theorem TX.forms (T : TX w K mg) : ∃ es n, KDict K w (He.ga K "FORMS") es n := T.says.tab 0
theorem TX.form (T : TX w K mg) {x : Str} {v : He.Dv} (h : (x, v) ∈ fv) : ∃ u, PySem.W.nsIn K (He.ga K "FORMS") x = some (some u) ∧ RelV (v.v K) u := He.valsB_ok T.more4.2.2.2.2 h
/-! ### callees -/
structure Cal (P : Program) (w : World) (K : PySem.W.Frag) (mg : Str → Option Value) (base : Heap) (k : Nat) (f : Addr) (ps : List Str) (sp : Sp) (dvs : List V) : Prop where
  ex : ∃ fd ds, FnOk P w K mg base CX0 k f fd ps sp ∧ Binds K fd ps ds ∧ Vals dvs ds
  kp : PySem.W.keepIn K (.ref f) = true
abbrev BX (P : Program) (w : World) (K : PySem.W.Frag) (mg : Str → Option Value) (base : Heap) (N : List Str) (qual : Str) (scope : Scope) (f : Addr) (cdv : Value) (A : Around) (outer : List Env) (s : Shared) (H : Hp) (E : XK) : Cx := (cxOf CX0 P w K mg base N qual scope f cdv A outer s H E).nox
/-- a def without defaults, from its body's walk -/
theorem cal_mk (T : TX w K mg) (i : Nat) {d : He.DefD} {N ps : List Str} {k : Nat} {sp : Sp} (hfn : fn[i]? = some d) (hd0 : d.dfl = []) (hk0 : d.kwd = []) (S : FnScope N ps d.scope) (len : ∀ vs H Q E, sp vs H Q E → vs.length = ps.length)
    (hb : ∀ (kV doc pm : Value) (an : Option Addr) (cdv ct : Value) (us : List Value), us.length = ps.length → bindArgs (PySem.W.fnOf d.name d.qual d.params d.body d.scope .none kV doc pm an cdv ct) ⟨us, []⟩ = pure (ps.zip us))
    (hbody : ∀ (cdv : Value) (A : Around) (outer : List Env) (s : Shared) (H : Hp) (vs : List V) (Q : VK) (E : XK), Room k (A.deeper (envOfC d.qual d.scope s.heap.objs.size (He.fAd K d.at_) cdv)) → sp vs H Q E →
      ∃ t, PSs (BX P w K mg base N d.qual d.scope (He.fAd K d.at_) cdv A outer s H E) d.body t ∧ t { nx := fun _ H' => Q .non H', rt := Q } (start N vs) H) : Cal P w K mg base (k + 1) (He.fAd K d.at_) ps sp [] := by
  obtain ⟨fd, F⟩ := T.says.d.def_ i hfn
  have e1 : d.dvs K = [] := by unfold He.DefD.dvs; rw [hd0]; rfl
  have e2 : d.kws K = [] := by unfold He.DefD.kws; rw [hk0]; rfl
  rw [e1, e2] at F
  refine ⟨⟨fd, [], F.ok S len fun cdv A outer s H vs Q E hr h => ?_, F.bindsN hb, .nil⟩, F.kp⟩
  obtain ⟨t, h1, h2⟩ := hbody cdv A outer s H vs Q E hr h
  exact ⟨t, h1.nox, h2⟩
end
section
variable {X : Cx} {k : Nat} {f C : Addr} {ps : List Str} {sp : Sp} {dvs : List V} {x m : Str} {p pos apos : Pos} {e o : Expr} {es : List Expr} {ta : TE} {t : TA}
theorem pe_k (c : Cal X.prog X.w X.K X.mg X.base k f ps sp dvs) (hr : Room k X.A) (hg : Gl X x) (hm : X.mg x = some (.ref f)) (ha : PA X (e :: es) t)
    (hdb : (x == ("__debug__" : Str)) = false := by decide) (he : starEach (e :: es) X.env = (false, eval e X.env) :: starEach es X.env := by rfl) (hpl : (backTo pos (starEach es X.env)).any (·.1) = false := by rfl) : PE X (.Call (.Name x p) (e :: es) [] pos) (tCall sp dvs E0 t) := by
  obtain ⟨fd, ds, F, hb, hd⟩ := c.ex
  exact pe_call F hr hg hm c.kp hb hd pass0 ha hdb he hpl
theorem pe_k0 (c : Cal X.prog X.w X.K X.mg X.base k f ps sp dvs) (hr : Room k X.A) (hg : Gl X x) (hm : X.mg x = some (.ref f)) (hdb : (x == ("__debug__" : Str)) = false := by decide) : PE X (.Call (.Name x p) [] [] pos) (tCall sp dvs E0 tNil) := by
  obtain ⟨fd, ds, F, hb, hd⟩ := c.ex
  exact pe_call0 F hr hg hm c.kp hb hd pass0 hdb
theorem pe_m {pl : Sem Bool} (cl : Cls X.K C) (hm : Meth X.K C m f) (c : Cal X.prog X.w X.K X.mg X.base k f ps sp dvs) (hr : Room k X.A) (he : PE X o ta) (ha : PA X (e :: es) t)
    (hst : starEach (e :: es) X.env = (false, eval e X.env) :: starEach es X.env := by rfl) (hpl : (backTo pos (starEach es X.env)).any (·.1) = false := by rfl)
    (ht : eval (.Call (.Attribute o m apos) (e :: es) [] pos) X.env = (do
      let ov ← eval o X.env
      standAt apos.atName
      let (f, first) ← holding [ov] (getMethod ov m pl)
      callWith pos f first (backTo pos (starEach (e :: es) X.env)) (backToKw pos (keywordEach [] X.env))) := by rfl) : PE X (.Call (.Attribute o m apos) (e :: es) [] pos) (tMeth C m sp dvs E0 ta t) := by
  obtain ⟨fd, ds, F, hb, hd⟩ := c.ex
  exact pe_meth he cl hm F hr hb hd pass0 ha hst hpl ht
theorem pe_m0 {pl : Sem Bool} (cl : Cls X.K C) (hm : Meth X.K C m f) (c : Cal X.prog X.w X.K X.mg X.base k f ps sp dvs) (hr : Room k X.A) (he : PE X o ta)
    (ht : eval (.Call (.Attribute o m apos) [] [] pos) X.env = (do
      let ov ← eval o X.env
      standAt apos.atName
      let (f, first) ← holding [ov] (getMethod ov m pl)
      callWith pos f first (backTo pos (starEach [] X.env)) (backToKw pos (keywordEach [] X.env))) := by rfl) : PE X (.Call (.Attribute o m apos) [] [] pos) (tMeth C m sp dvs E0 ta tNil) := by
  obtain ⟨fd, ds, F, hb, hd⟩ := c.ex
  exact pe_meth0 he cl hm F hr hb hd pass0 ht
end
end Wn

set_option Elab.async false
set_option linter.all false
set_option maxRecDepth 100000
set_option maxHeartbeats 4000000
/-! More readings in data: isinstance, all, texts; promises of defs upon data. -/
namespace Wn
open PySem PySem.Spec PyProof.Rows L2
open Zab hiding World Place Row
section
variable {K : PySem.W.Frag} {σ : L2.St} {H H' : Hp} {ta tb te : TE} {t u : TT}
def tyN : PyData → String
  | .none => "NoneType"
  | .bool _ => "bool"
  | .int _ => "int"
  | .str _ => "str"
  | .list _ => "list"
  | .tuple _ => "tuple"
  | .dict _ => "dict"
theorem tyx_tup {a : Addr} {xs : List V} (h : SqT K H a xs) : TyX K H (.ref a) (.type "tuple") := by
  rcases h with (h | ⟨o, h⟩) | ⟨o, its, n, h1, h2, h3, _⟩
  · exact .base (.tup h)
  · exact .fTuple h
  · exact .kTuple h1 h2
theorem tyx_of {v : V} {d : PyData} (h : Dp K H v d) (hl : ∀ ds, d ≠ .list ds) : TyX K H v (.type (tyN d)) := by
  cases h with
  | non => exact .base .non
  | bl b => exact .base (.bl b)
  | int i => exact .base (.int i)
  | str x => exact .base (.str x)
  | lst h1 h2 => exact absurd rfl (hl _)
  | tup h1 h2 => exact tyx_tup h1
theorem evd_isi {d : PyData} {c : String} {b : Bool} (h : EvD K ta σ H d) (hk : kitB (tyN d) c = some b) (hl : ∀ ds, d ≠ .list ds := by intro ds h; cases h) : EvD K (tCB (rIsi K) (tCons ta (tCons (tC (.ty c)) tNil))) σ H (.bool b) := fun H1 e Q q =>
  h H1 e _ fun v H2 e2 hv => ⟨v, .ty c, _, _, b, rfl, .ty c, tyx_of hv hl, kit_ty hk, q _ H2 e2 (.bl b)⟩
/-- all of a list of truths -/
theorem dpA_bls : ∀ {bs : List Bool} {vs : List V}, DpAll K H vs (bs.map PyData.bool) → vs = bs.map V.bl
  | [], _, h => by cases h; rfl
  | b :: bs, _, h => by
    cases h with | cons h1 h2 =>
    rw [dp_bl h1, dpA_bls h2]
    rfl
theorem evd_all {bs : List Bool} (h : EvD K te σ H (.list (bs.map .bool))) : EvD K (tCB (rAll K) (tCons te tNil)) σ H (.bool (bs.all id)) := fun H1 e Q q =>
  h H1 e _ fun v H2 e2 hv => by
    obtain ⟨a, xs, rfl, h1, h2⟩ := dp_lst hv
    have hx := dpA_bls h2
    subst hx
    exact ⟨a, bs, rfl, h1, q _ H2 e2 (.bl _)⟩
/-- len -/
theorem evd_lenT {ds : List PyData} (h : EvD K te σ H (.tuple ds)) : EvD K (tCB (fun xs H Q => ∃ x n, xs = [x] ∧ LenV K x H n ∧ Q (.int n) H) (tCons te tNil)) σ H (.int (ds.length : Int)) := fun H1 e Q q =>
  h H1 e _ fun v H2 e2 hv => by
    obtain ⟨a, xs, rfl, h1, h2⟩ := dp_tup hv
    exact ⟨.ref a, ds.length, rfl, .inr ⟨xs, h1, (dpA_len h2).symm⟩, q _ H2 e2 (.int _)⟩
theorem evd_lenL {ds : List PyData} (h : EvD K te σ H (.list ds)) : EvD K (tCB (fun xs H Q => ∃ x n, xs = [x] ∧ LenV K x H n ∧ Q (.int n) H) (tCons te tNil)) σ H (.int (ds.length : Int)) := fun H1 e Q q =>
  h H1 e _ fun v H2 e2 hv => by
    obtain ⟨a, xs, rfl, h1, h2⟩ := dp_lst hv
    exact ⟨.ref a, ds.length, rfl, .inl ⟨xs, h1, (dpA_len h2).symm⟩, q _ H2 e2 (.int _)⟩
theorem evd_lenS {z : Str} (h : EvD K te σ H (.str z)) (hz : z.length ≤ 100000) : EvD K (tCB (fun xs H Q => ∃ x n, xs = [x] ∧ LenV K x H n ∧ Q (.int n) H) (tCons te tNil)) σ H (.int (z.length : Int)) := fun H1 e Q q =>
  h H1 e _ fun v H2 e2 hv => by
    rw [dp_str hv]
    exact ⟨.str z, z.length, rfl, ⟨Evl.sz_of hz, rfl⟩, q _ H2 e2 (.int _)⟩
/-- one sign in a text -/
theorem rd_sign {c : Nat} {z : Str} : RD K (fun x y H Q => ∃ (c : Nat) (z : Str), x = .str ⟨#[c]⟩ ∧ y = .str z ∧ Q (.bl (decide (c ∈ z.cps.toList))) H) (.str ⟨#[c]⟩) (.str z) (.bool (decide (c ∈ z.cps.toList))) := fun H u v hu hv Q q => by
  rw [dp_str hu, dp_str hv]
  exact ⟨c, z, rfl, rfl, q _ H (Evl.Ex.refl H) (.bl _)⟩
/-- [e for c in s] over a text -/
theorem evn_lcS {j : Nat} {vs : List Nat} {z : Str} (f : Nat → PyData) (h : EvD K ta σ H (.str z)) (hz : z.cps.size < 100000) (hi : ∀ c, Imm (f c))
    (he : ∀ c, c ∈ z.cps.toList → ∀ H1, Ex H H1 → EvD K te ((wipe σ vs).set j (some (.str ⟨#[c]⟩))) H1 (f c))
    (hw : ∀ x, wipe ((wipe σ vs).set j (some x)) vs = wipe σ vs := by intro _; rfl) : EvN K (tLc (iStr ta) (gName j) tYes te vs) σ H (z.cps.toList.map f) := fun H0 e Q q =>
  h H0 e _ fun v H1 e1 hv => ⟨z, dp_str hv, fun D hD => lc_it walk_str (fun i H' => LcW K H1 D ((z.cps.toList.take i).map f) H') ⟨hD, Evl.Ex.new hD, ⟨[], upd_same, .nil⟩, fun d hd => by cases hd⟩ (fun _ _ _ _ => trivial) (fun i x H' H'' hi' p y => by
    obtain ⟨rfl, c, hc, rfl⟩ := y
    have hc' : z.cps.toList[i]? = some c := by rw [Array.getElem?_toList]; exact hc
    refine ⟨hw _, lcw_turn (b := true) (d := f c) p ?_ (hi c) et_yes (fun _ => he c (List.mem_of_getElem? hc') H'' ((e.trans e1).trans p.2.1)) fun H3 k => ?_⟩
    · rw [List.length_map, List.length_take, Array.length_toList]
      omega
    · rw [List.take_add_one, hc', List.map_append]
      exact k) fun H' p => by
    obtain ⟨p1, p2, p3, _⟩ := p
    rw [show z.cps.size = z.cps.toList.length by simp, List.take_length] at p3
    exact q D H' (Evl.fresh_back e1 p1) (e1.trans p2) p3⟩
/-- if c: return .., the rest not asked -/
theorem s_ifT {tu tw : TS} {D : Ends} (h : Evl.EvT t σ H true) (k : ∀ H1, Ex H H1 → tu D σ H1) : tIfS t tu tw D σ H := Evl.s_if h (fun _ => k) fun q => by cases q
theorem s_ifF {tu tw : TS} {D : Ends} (h : Evl.EvT t σ H false) (k : ∀ H1, Ex H H1 → tw D σ H1) : tIfS t tu tw D σ H := Evl.s_if h (fun q => by cases q) fun _ => k
theorem q_ifF {tu tz : TS} {D : Ends} (h : Evl.EvT t σ H false) (k : ∀ H1, Ex H H1 → tz D σ H1) : tSeq (tIfS t tu tNext) tz D σ H := s_ifF (D := { D with nx := tz D }) h k
theorem q_ifT {tu tw tz : TS} {D : Ends} (h : Evl.EvT t σ H true) (k : ∀ H1, Ex H H1 → tu { D with nx := tz D } σ H1) : tSeq (tIfS t tu tw) tz D σ H := s_ifT (D := { D with nx := tz D }) h k
/-! ### lists of arguments taken apart -/
theorem dpA0 {vs : List V} (h : DpAll K H vs []) : vs = [] := by cases h; rfl
theorem dpA1 {vs : List V} {a : PyData} (h : DpAll K H vs [a]) : ∃ x, vs = [x] ∧ Dp K H x a := by
  cases h with | cons h1 h2 => exact ⟨_, by rw [dpA0 h2], h1⟩
theorem dpA2 {vs : List V} {a b : PyData} (h : DpAll K H vs [a, b]) : ∃ x y, vs = [x, y] ∧ Dp K H x a ∧ Dp K H y b := by
  cases h with | cons h1 h2 =>
  obtain ⟨y, rfl, k⟩ := dpA1 h2
  exact ⟨_, y, rfl, h1, k⟩
theorem dpA3 {vs : List V} {a b c : PyData} (h : DpAll K H vs [a, b, c]) : ∃ x y z, vs = [x, y, z] ∧ Dp K H x a ∧ Dp K H y b ∧ Dp K H z c := by
  cases h with | cons h1 h2 =>
  obtain ⟨y, z, rfl, k⟩ := dpA2 h2
  exact ⟨_, y, z, rfl, h1, k⟩
theorem dpA4 {vs : List V} {a b c d : PyData} (h : DpAll K H vs [a, b, c, d]) : ∃ x y z u, vs = [x, y, z, u] ∧ Dp K H x a ∧ Dp K H y b ∧ Dp K H z c ∧ Dp K H u d := by
  cases h with | cons h1 h2 =>
  obtain ⟨y, z, u, rfl, k⟩ := dpA3 h2
  exact ⟨_, y, z, u, rfl, h1, k⟩
theorem k_ii : kitB "int" "int" = some true := by decide +kernel
theorem k_ib : kitB "int" "bool" = some false := by decide +kernel
theorem k_ss : kitB "str" "str" = some true := by decide +kernel
theorem k_tt : kitB "tuple" "tuple" = some true := by decide +kernel
/-! ### promises upon data -/
/-- from data of the form enc a it gives res a, all that stood stands -/
def spF (K : PySem.W.Frag) {α : Type} (enc : α → List PyData) (pre : α → Prop) (res : α → PyData) : Sp := fun vs H Q _ => ∃ a : α, pre a ∧ DpAll K H vs (enc a) ∧ ∀ v H', Ex H H' → Dp K H' v (res a) → Q v H'
/-- .. a new list -/
def spN (K : PySem.W.Frag) {α : Type} (enc : α → List PyData) (pre : α → Prop) (res : α → List PyData) : Sp := fun vs H Q _ => ∃ a : α, pre a ∧ DpAll K H vs (enc a) ∧ ∀ p H', H p = none → Ex H H' → LstAt K H' p (res a) → Q (.ref p) H'
theorem evd_F {α : Type} {enc : α → List PyData} {pre : α → Prop} {res : α → PyData} {E : XK} {tA : TA} (a : α) (hp : pre a) (h : EvDs K tA σ H (enc a)) : EvD K (tCall (spF K enc pre res) [] E tA) σ H (res a) :=
  evd_call h fun vs H1 e hv Q q => ⟨a, hp, by rw [List.append_nil]; exact hv, q⟩
theorem evn_F {α : Type} {enc : α → List PyData} {pre : α → Prop} {res : α → List PyData} {E : XK} {tA : TA} (a : α) (hp : pre a) (h : EvDs K tA σ H (enc a)) : EvN K (tCall (spN K enc pre res) [] E tA) σ H (res a) :=
  evn_call h fun vs H1 e hv Q q => ⟨a, hp, by rw [List.append_nil]; exact hv, q⟩
end
section
variable {P : Program} {w : World} {K : PySem.W.Frag} {mg : Str → Option Value} {base : Heap}
theorem cal_F (T : TX w K mg) (i : Nat) {d : He.DefD} {N ps : List Str} {k : Nat} {α : Type} {enc : α → List PyData} {pre : α → Prop} {res : α → PyData} (hfn : fn[i]? = some d) (hd0 : d.dfl = []) (hk0 : d.kwd = []) (S : FnScope N ps d.scope) (hl : ∀ a, (enc a).length = ps.length)
    (hb : ∀ (kV doc pm : Value) (an : Option Addr) (cdv ct : Value) (us : List Value), us.length = ps.length → bindArgs (PySem.W.fnOf d.name d.qual d.params d.body d.scope .none kV doc pm an cdv ct) ⟨us, []⟩ = pure (ps.zip us))
    (hbody : ∀ (cdv : Value) (A : Around) (outer : List Env) (s : Shared) (H : Hp) (vs : List V) (E : XK) (a : α), Room k (A.deeper (envOfC d.qual d.scope s.heap.objs.size (He.fAd K d.at_) cdv)) → pre a → DpAll K H vs (enc a) →
      ∃ t, PSs (BX P w K mg base N d.qual d.scope (He.fAd K d.at_) cdv A outer s H E) d.body t ∧ ∀ D : Ends, (∀ v H', Ex H H' → Dp K H' v (res a) → D.rt v H') → t D (start N vs) H) : Cal P w K mg base (k + 1) (He.fAd K d.at_) ps (spF K enc pre res) [] := by
  refine cal_mk T i hfn hd0 hk0 S (fun vs H Q E h => ?_) hb fun cdv A outer s H vs Q E hr h => ?_
  · obtain ⟨a, _, h, _⟩ := h
    rw [dpA_len h, hl a]
  · obtain ⟨a, hp, hv, q⟩ := h
    obtain ⟨t, h1, h2⟩ := hbody cdv A outer s H vs E a hr hp hv
    exact ⟨t, h1, h2 _ q⟩
theorem cal_N (T : TX w K mg) (i : Nat) {d : He.DefD} {N ps : List Str} {k : Nat} {α : Type} {enc : α → List PyData} {pre : α → Prop} {res : α → List PyData} (hfn : fn[i]? = some d) (hd0 : d.dfl = []) (hk0 : d.kwd = []) (S : FnScope N ps d.scope) (hl : ∀ a, (enc a).length = ps.length)
    (hb : ∀ (kV doc pm : Value) (an : Option Addr) (cdv ct : Value) (us : List Value), us.length = ps.length → bindArgs (PySem.W.fnOf d.name d.qual d.params d.body d.scope .none kV doc pm an cdv ct) ⟨us, []⟩ = pure (ps.zip us))
    (hbody : ∀ (cdv : Value) (A : Around) (outer : List Env) (s : Shared) (H : Hp) (vs : List V) (E : XK) (a : α), Room k (A.deeper (envOfC d.qual d.scope s.heap.objs.size (He.fAd K d.at_) cdv)) → pre a → DpAll K H vs (enc a) →
      ∃ t, PSs (BX P w K mg base N d.qual d.scope (He.fAd K d.at_) cdv A outer s H E) d.body t ∧ ∀ D : Ends, (∀ p H', H p = none → Ex H H' → LstAt K H' p (res a) → D.rt (.ref p) H') → t D (start N vs) H) : Cal P w K mg base (k + 1) (He.fAd K d.at_) ps (spN K enc pre res) [] := by
  refine cal_mk T i hfn hd0 hk0 S (fun vs H Q E h => ?_) hb fun cdv A outer s H vs Q E hr h => ?_
  · obtain ⟨a, _, h, _⟩ := h
    rw [dpA_len h, hl a]
  · obtain ⟨a, hp, hv, q⟩ := h
    obtain ⟨t, h1, h2⟩ := hbody cdv A outer s H vs E a hr hp hv
    exact ⟨t, h1, h2 _ q⟩
end
section
variable {X : Cx} {x : Str} {pos p : Pos} {e : Expr} {ta : TE}
theorem pe_gI {n : Int} (hg : Gl X x) (hm : ∃ t, X.mg x = some (.int n t)) (hd : (x == ("__debug__" : Str)) = false := by decide) : PE X (.Name x pos) (tC (.int n)) := by
  obtain ⟨t, e⟩ := hm
  exact pe_glob (v := .int n) hg e ⟨t, rfl⟩ hd
theorem pe_gS {z : Str} (hg : Gl X x) (hm : ∃ t, X.mg x = some (.str z t)) (hd : (x == ("__debug__" : Str)) = false := by decide) : PE X (.Name x pos) (tC (.str z)) := by
  obtain ⟨t, e⟩ := hm
  exact pe_glob (v := .str z) hg e ⟨t, rfl⟩ hd
theorem pe_gR {a : Addr} (hg : Gl X x) (hm : X.mg x = some (.ref a)) (hd : (x == ("__debug__" : Str)) = false := by decide) : PE X (.Name x pos) (tC (.ref a)) := pe_glob (v := .ref a) hg hm rfl hd
/-- isinstance(e, T), T a built-in type by its name -/
theorem pe_isi {c : String} {q : Pos} {y : Str} (hg : Gl X "isinstance") (hm : X.mg "isinstance" = none) (ha : PE X e ta) (hg2 : Gl X y) (hm2 : X.mg y = none) (hv : bootBuiltins y = some (.type c))
    (hn : y ≠ "__name__" := by decide) (hd : (y == ("__debug__" : Str)) = false := by decide) (h1 : starEach [e, .Name y q] X.env = (false, eval e X.env) :: starEach [.Name y q] X.env := by rfl) : PE X (.Call (.Name "isinstance" p) [e, .Name y q] [] pos) (tCB (rIsi X.K) (tCons ta (tCons (tC (.ty c)) tNil))) :=
  pe_callB call_isi hg hm (by decide +kernel) (pa_cons ha (pa_cons (pe_bltn (v := .ty c) hg2 hm2 hv rfl hn hd) pa_nil) h1) (by decide) (by decide) h1 rfl
end
theorem bt_int : bootBuiltins "int" = some (.type "int") := by decide +kernel
theorem bt_bool : bootBuiltins "bool" = some (.type "bool") := by decide +kernel
theorem bt_str : bootBuiltins "str" = some (.type "str") := by decide +kernel
theorem bt_tuple : bootBuiltins "tuple" = some (.type "tuple") := by decide +kernel
theorem bt_all : bootBuiltins "all" = some (.builtin "all") := by decide +kernel
theorem bt_dict : bootBuiltins "dict" = some (.type "dict") := by decide +kernel
theorem bt_list : bootBuiltins "list" = some (.type "list") := by decide +kernel
theorem bt_set : bootBuiltins "set" = some (.type "set") := by decide +kernel
theorem bt_max : bootBuiltins "max" = some (.builtin "max") := by decide +kernel
theorem bt_min : bootBuiltins "min" = some (.builtin "min") := by decide +kernel
theorem bt_sorted : bootBuiltins "sorted" = some (.builtin "sorted") := by decide +kernel
theorem bt_repr : bootBuiltins "repr" = some (.builtin "repr") := by decide +kernel
end Wn

set_option Elab.async false
set_option linter.all false
set_option maxRecDepth 100000
set_option maxHeartbeats 4000000
/-! paths: is_whole, is_word, is_place. -/
namespace Wn
open PySem PySem.Spec PyProof.Rows L2
open Zab hiding World Place Row
section
variable {P : Program} {w : World} {K : PySem.W.Frag} {mg : Str → Option Value} {base : Heap}
abbrev spWhole (K : PySem.W.Frag) : Sp := spF K (fun n : Int => [.int n]) (fun _ => True) (fun _ => .bool true)
theorem sc_whole : FnScope ["thing"] ["thing"] (defScope s_is_whole) := ⟨rfl, rfl, rfl, by decide +kernel, rfl, by decide +kernel, by decide +kernel⟩
theorem ok_is_whole (T : TX w K mg) : Cal P w K mg base 1 (He.ga K "is_whole") ["thing"] (spWhole K) [] := by
  refine cal_F T 0 (d := d_is_whole) rfl rfl rfl sc_whole (fun _ => rfl) (fun _ _ _ _ _ _ us hl => match us, hl with | [_], _ => rfl) fun cdv A outer s H vs E n hr _ hv => ?_
  obtain ⟨v, rfl, hd⟩ := dpA1 hv
  refine ⟨_, pss_one (ps_ret (pe_and (pe_isi (by rfl) T.b_isinstance (pv 0) (by rfl) T.b_int bt_int) (pe_one (pe_not (pe_isi (by rfl) T.b_isinstance (pv 0) (by rfl) T.b_bool bt_bool))))), fun D q => ?_⟩
  exact s_retD (evd_and (evd_isi (evd_var hd) k_ii) fun _ => evd_not (evd_isi (evd_var hd) k_ib)) q
/-- a word's text -/
def wordOk (z : Str) : Bool := decide (1 ≤ z.length) && decide (z.length ≤ 8) && z.cps.toList.all fun c => decide (c ∈ ("abcdefghijklmnopqrstuvwxyz" : Str).cps.toList)
abbrev spWord (K : PySem.W.Frag) : Sp := spF K (fun z : Str => [.str z]) (fun z => wordOk z = true) (fun _ => .bool true)
theorem sc_word : FnScope ["thing", "sign"] ["thing"] (defScope s_is_word) := ⟨rfl, rfl, rfl, by decide +kernel, rfl, by decide +kernel, by decide +kernel⟩
theorem ok_is_word (T : TX w K mg) : Cal P w K mg base 1 (He.ga K "is_word") ["thing"] (spWord K) [] := by
  refine cal_F T 1 (d := d_is_word) rfl rfl rfl sc_word (fun _ => rfl) (fun _ _ _ _ _ _ us hl => match us, hl with | [_], _ => rfl) fun cdv A outer s H vs E z hr hz hv => ?_
  obtain ⟨v, rfl, hd⟩ := dpA1 hv
  obtain ⟨h12, h3⟩ := Bool.and_eq_true_iff.mp hz
  obtain ⟨h1, h2⟩ := Bool.and_eq_true_iff.mp h12
  have h1 : 1 ≤ z.length := of_decide_eq_true h1
  have h2 : z.length ≤ 8 := of_decide_eq_true h2
  refine ⟨_, pss_one (ps_ret (pe_and (pe_isi (by rfl) T.b_isinstance (pv 0) (by rfl) T.b_str bt_str)
    (pe_and (pe_chain op_le op_le pe_int (pe_callB call_len (by rfl) T.b_len PySem.boot_len (pa_cons (pv 0) pa_nil)) (pe_gI (by rfl) T.v_LONGEST))
      (pe_one (pe_callB (cr_all rfl) (by rfl) T.b_all bt_all (pa_cons (pe_lc (own := [("sign", 1)]) (g := gName 1) (by rfl) sc_word.nd (pi_str (pv 0)) (blkOk_by (own := [("sign", 1)]) (N := ["thing", "sign"]) (sc := defScope s_is_word) (by decide +kernel)) (fun _ _ _ _ _ => pg_name (i := 1) sc_word.nd rfl (Or.inl rfl)) (fun _ _ _ _ _ => pts_nil)
        (fun _ _ _ _ _ => pe_cmpR op_in_sign (pv 1) (pe_gS (by rfl) T.v_LETTERS) (by rfl))) pa_nil)))))), fun D q => ?_⟩
  have hl : ((z.length : Nat) : Int) = (z.length : Int) := rfl
  refine s_retD ((evd_and (evd_isi (evd_var hd) k_ss) fun _ => evd_and (et_chain evd_int (evd_lenS (evd_var hd) (by omega)) (rd_I0 (z := .bool (decide ((1 : Int) ≤ (z.length : Int)))) fun H => .bl _) (fun _ => evd_int) (fun _ => rd_I0 (z := .bool (decide ((z.length : Int) ≤ 8))) fun H => .bl _))
    fun _ => evd_all (bs := z.cps.toList.map fun c => decide (c ∈ ("abcdefghijklmnopqrstuvwxyz" : Str).cps.toList)) ((evn_lcS (fun c => .bool (decide (c ∈ ("abcdefghijklmnopqrstuvwxyz" : Str).cps.toList))) (evd_var hd) (show z.length < 100000 by omega) (fun _ => .bl _)
      fun c _ H1 e => evd_op (evd_var (.str _)) evd_str rd_sign).d.to (by rw [List.map_map]; rfl))).to ?_) q
  rw [decide_eq_true (show (1 : Int) ≤ (z.length : Int) by omega), decide_eq_true (show (z.length : Int) ≤ 8 by omega), List.all_map]
  have h4 : (z.cps.toList.all (id ∘ fun c => decide (c ∈ ("abcdefghijklmnopqrstuvwxyz" : Str).cps.toList))) = true := h3
  rw [h4]
  rfl
abbrev spPlace (K : PySem.W.Frag) : Sp := spF K (fun p : Place => [dP p]) (fun _ => True) (fun _ => .bool true)
theorem sc_place : FnScope ["thing", "one"] ["thing"] (defScope s_is_place) := ⟨rfl, rfl, rfl, by decide +kernel, rfl, by decide +kernel, by decide +kernel⟩
theorem ok_is_place (T : TX w K mg) : Cal P w K mg base 2 (He.ga K "is_place") ["thing"] (spPlace K) [] := by
  have C1 := ok_is_whole (P := P) (base := base) T
  refine cal_F T 2 (d := d_is_place) rfl rfl rfl sc_place (fun _ => rfl) (fun _ _ _ _ _ _ us hl => match us, hl with | [_], _ => rfl) fun cdv A outer s H vs E p hr _ hv => ?_
  obtain ⟨v, rfl, hd⟩ := dpA1 hv
  refine ⟨_, pss_one (ps_ret (pe_and (pe_isi (by rfl) T.b_isinstance (pv 0) (by rfl) T.b_tuple bt_tuple)
    (pe_and (pe_cmpR op_eq (pe_callB call_len (by rfl) T.b_len PySem.boot_len (pa_cons (pv 0) pa_nil)) pe_int (nomark _))
      (pe_one (pe_callB (cr_all rfl) (by rfl) T.b_all bt_all (pa_cons (pe_lc (own := [("one", 1)]) (g := gName 1) (by rfl) sc_place.nd (pi_tup (pv 0)) (blkOk_by (own := [("one", 1)]) (N := ["thing", "one"]) (sc := defScope s_is_place) (by decide +kernel)) (fun _ _ _ _ _ => pg_name (i := 1) sc_place.nd rfl (Or.inl rfl)) (fun _ _ _ _ _ => pts_nil)
        (fun _ _ _ _ _ => pe_and (pe_k C1 hr (by rfl) T.g_is_whole (pa_cons (pv 1) pa_nil)) (pe_one (pe_cmpR op_ge (pv 1) pe_int (nomark _))))) pa_nil)))))), fun D q => ?_⟩
  refine s_retD ((evd_and (evd_isi (evd_var hd) k_tt) fun _ => evd_and (evd_op (evd_lenT (evd_var hd)) evd_int rd_eqI)
    fun _ => evd_all (bs := [true, true]) ((evn_lcT (xs := [p.1, p.2]) (g := dI) (fun _ => true) (fun _ => .bool true) (evd_var hd) (by show 2 < 100000; decide) (fun _ _ => .bl _) (fun _ _ _ _ _ _ => et_yes)
      fun n _ v H1 e hv _ => (evd_and (evd_F (n : Int) trivial (eds_one (evd_var hv))) fun _ => evd_op (evd_var hv) evd_int (rd_I0 (z := .bool (decide ((0 : Int) ≤ (n : Int)))) fun H => .bl _)).to ?_).d.to rfl)).to rfl) q
  rw [decide_eq_true (show (0 : Int) ≤ (n : Int) by omega)]
  rfl
end
end Wn

set_option Elab.async false
set_option linter.all false
set_option maxRecDepth 100000
set_option maxHeartbeats 4000000
/-! A House in a heap: its addresses, its attributes, what stands there; how it may change. -/
namespace Wn
open PySem PySem.Spec PyProof.Rows L2
open Zab hiding World Place Row
/-- where a house's things stand -/
structure HX where
  p : Addr
  dx : Addr
  mem : Addr
  row : Addr
  done : Addr
  st : Addr
  stn : Addr
  sts : Addr
  fresh : Addr
  prom : Addr
  tak : Addr
  heard : Addr
def roleS : Role → Str
  | .seeks => "seeks"
  | .follows => "follows"
  | .leads => "leads"
def optN : Option Nat → V
  | none => .non
  | some n => .str (nS n)
def optI : Option Nat → V
  | none => .non
  | some n => .int (n : Int)
abbrev hfs (x : HX) (h : House) : List (Str × V) := [("own_name", .str (nS h.nm)), ("own_members", .ref x.mem), ("own_looks", .str "all"), ("own_promised", .int (h.promised : Int)), ("own_epoch", .int (h.epoch : Int)), ("own_row", .ref x.row), ("own_done", .ref x.done),
  ("own_state", .ref x.st), ("fresh", .ref x.fresh), ("own_role", .str (roleS h.role)), ("own_head", optN h.head), ("sought", optI h.sought), ("promises", .ref x.prom), ("taken", .ref x.tak), ("own_clock", .int (h.clock : Int)), ("heard_at", .ref x.heard)]
section
variable {x : HX} {h : House} {v : V}
theorem l_name : (hfs x h).lookup ("own_name" : Str) = some (.str (nS h.nm)) := by kernel_rfl
theorem l_members : (hfs x h).lookup ("own_members" : Str) = some (.ref x.mem) := by kernel_rfl
theorem l_looks : (hfs x h).lookup ("own_looks" : Str) = some (.str "all") := by kernel_rfl
theorem l_promised : (hfs x h).lookup ("own_promised" : Str) = some (.int (h.promised : Int)) := by kernel_rfl
theorem l_epoch : (hfs x h).lookup ("own_epoch" : Str) = some (.int (h.epoch : Int)) := by kernel_rfl
theorem l_row : (hfs x h).lookup ("own_row" : Str) = some (.ref x.row) := by kernel_rfl
theorem l_done : (hfs x h).lookup ("own_done" : Str) = some (.ref x.done) := by kernel_rfl
theorem l_state : (hfs x h).lookup ("own_state" : Str) = some (.ref x.st) := by kernel_rfl
theorem l_fresh : (hfs x h).lookup ("fresh" : Str) = some (.ref x.fresh) := by kernel_rfl
theorem l_role : (hfs x h).lookup ("own_role" : Str) = some (.str (roleS h.role)) := by kernel_rfl
theorem l_head : (hfs x h).lookup ("own_head" : Str) = some (optN h.head) := by kernel_rfl
theorem l_sought : (hfs x h).lookup ("sought" : Str) = some (optI h.sought) := by kernel_rfl
theorem l_promises : (hfs x h).lookup ("promises" : Str) = some (.ref x.prom) := by kernel_rfl
theorem l_taken : (hfs x h).lookup ("taken" : Str) = some (.ref x.tak) := by kernel_rfl
theorem l_clock : (hfs x h).lookup ("own_clock" : Str) = some (.int (h.clock : Int)) := by kernel_rfl
theorem l_heard : (hfs x h).lookup ("heard_at" : Str) = some (.ref x.heard) := by kernel_rfl
end
section
variable {x : HX} {h : House}
theorem p_promised {n : Nat} : putF "own_promised" (.int (n : Int)) (hfs x h) = hfs x { h with promised := n } := by kernel_rfl
theorem p_epoch {n : Nat} : putF "own_epoch" (.int (n : Int)) (hfs x h) = hfs x { h with epoch := n } := by kernel_rfl
theorem p_row {a : Addr} {r : Row} : putF "own_row" (.ref a) (hfs x h) = hfs { x with row := a } { h with row := r } := by kernel_rfl
theorem p_done {a : Addr} {p : Place} : putF "own_done" (.ref a) (hfs x h) = hfs { x with done := a } { h with done := p } := by kernel_rfl
theorem p_state {a b c : Addr} : putF "own_state" (.ref a) (hfs x h) = hfs { x with st := a, stn := b, sts := c } h := by kernel_rfl
theorem p_fresh {a : Addr} {n : Nat} : putF "fresh" (.ref a) (hfs x h) = hfs { x with fresh := a } { h with fresh := n } := by kernel_rfl
theorem p_role {r : Role} : putF "own_role" (.str (roleS r)) (hfs x h) = hfs x { h with role := r } := by kernel_rfl
theorem p_head {o : Option Nat} : putF "own_head" (optN o) (hfs x h) = hfs x { h with head := o } := by kernel_rfl
theorem p_sought {o : Option Nat} : putF "sought" (optI o) (hfs x h) = hfs x { h with sought := o } := by kernel_rfl
theorem p_promises {a : Addr} {d : Dic} : putF "promises" (.ref a) (hfs x h) = hfs { x with prom := a } { h with promises := d } := by kernel_rfl
theorem p_taken {a : Addr} {d : Dic} : putF "taken" (.ref a) (hfs x h) = hfs { x with tak := a } { h with taken := d } := by kernel_rfl
theorem p_clock {n : Nat} : putF "own_clock" (.int (n : Int)) (hfs x h) = hfs x { h with clock := n } := by kernel_rfl
theorem p_heard {a : Addr} : putF "heard_at" (.ref a) (hfs x h) = hfs { x with heard := a } h := by kernel_rfl
end
end Wn

set_option Elab.async false
set_option linter.all false
set_option maxRecDepth 100000
set_option maxHeartbeats 4000000
/-! A House in a heap (2): what stands at its addresses, frames, stores, promises of methods. -/
namespace Wn
open PySem PySem.Spec PyProof.Rows L2
open Zab hiding World Place Row
/-! ### dicts from names to places; sessions -/
section
variable {K : PySem.W.Frag} {H H' : Hp}
def DRep (K : PySem.W.Frag) (H : Hp) : List (Key × V) → Dic → Prop
  | [], [] => True
  | kv :: kvs, nd :: d => (kv.1 = Sum.inr (nS nd.1) ∧ Dp K H kv.2 (dP nd.2)) ∧ DRep K H kvs d
  | _, _ => False
theorem drep_len : ∀ {kvs : List (Key × V)} {d : Dic}, DRep K H kvs d → kvs.length = d.length
  | [], [], _ => rfl
  | _ :: _, _ :: _, h => by rw [List.length_cons, List.length_cons, drep_len h.2]
theorem drep_keep (e : Tups H H') (f : Frz H H') : ∀ {kvs : List (Key × V)} {d : Dic}, DRep K H kvs d → DRep K H' kvs d
  | [], [], _ => trivial
  | _ :: _, _ :: _, h => ⟨⟨h.1.1, dp_keep e f (imm_dP _) h.1.2⟩, drep_keep e f h.2⟩
theorem inr_nS {a b : Nat} : (Sum.inr (nS a) : Key) = Sum.inr (nS b) ↔ a = b := ⟨fun h => nS_inj.mp (Sum.inr.inj h), fun h => by rw [h]⟩
theorem drep_val : ∀ {kvs : List (Key × V)} {d : Dic} (n : Nat), DRep K H kvs d → (dget d n = none ∧ valV kvs (Sum.inr (nS n)) = none) ∨ ∃ p v, dget d n = some p ∧ valV kvs (Sum.inr (nS n)) = some v ∧ Dp K H v (dP p)
  | [], [], n, _ => .inl ⟨rfl, rfl⟩
  | kv :: kvs, nd :: d, n, h => by
    by_cases c : nd.1 = n
    · right
      refine ⟨nd.2, kv.2, ?_, ?_, h.1.2⟩
      · simp [dget, c]
      · exact valV_pos (by rw [h.1.1, c])
    · have c2 : ¬ kv.1 = Sum.inr (nS n) := by rw [h.1.1]; exact fun q => c (inr_nS.mp q)
      have e1 : dget (nd :: d) n = dget d n := by simp [dget, c]
      rw [e1, valV_neg c2]
      exact drep_val n h.2
theorem drep_any : ∀ {kvs : List (Key × V)} {d : Dic} (n : Nat), DRep K H kvs d → (kvs.any fun kv => decide (kv.1 = Sum.inr (nS n))) = d.any fun x => decide (x.1 = n)
  | [], [], n, _ => rfl
  | kv :: kvs, nd :: d, n, h => by
    rw [List.any_cons, List.any_cons, drep_any n h.2]
    congr 1
    rw [h.1.1]
    by_cases c : nd.1 = n
    · rw [decide_eq_true c, decide_eq_true (inr_nS.mpr c)]
    · rw [decide_eq_false c, decide_eq_false fun q => c (inr_nS.mp q)]
theorem drep_map {v : V} {p : Place} (n : Nat) (hv : Dp K H v (dP p)) : ∀ {kvs : List (Key × V)} {d : Dic}, DRep K H kvs d →
    DRep K H (kvs.map fun kv => if kv.1 = Sum.inr (nS n) then (kv.1, v) else kv) (d.map fun x => if x.1 = n then (n, p) else x)
  | [], [], _ => trivial
  | kv :: kvs, nd :: d, h => by
    refine ⟨?_, drep_map n hv h.2⟩
    by_cases c : nd.1 = n
    · have c2 : kv.1 = Sum.inr (nS n) := by rw [h.1.1, c]
      simp only [if_pos c, if_pos c2]
      exact ⟨c2, hv⟩
    · have c2 : ¬ kv.1 = Sum.inr (nS n) := by rw [h.1.1]; exact fun q => c (inr_nS.mp q)
      simp only [if_neg c, if_neg c2]
      exact h.1
theorem drep_snoc {v : V} {p : Place} (n : Nat) (hv : Dp K H v (dP p)) : ∀ {kvs : List (Key × V)} {d : Dic}, DRep K H kvs d → DRep K H (kvs ++ [(Sum.inr (nS n), v)]) (d ++ [(n, p)])
  | [], [], _ => ⟨⟨rfl, hv⟩, trivial⟩
  | _ :: _, _ :: _, h => ⟨h.1, drep_snoc n hv h.2⟩
theorem drep_put {v : V} {p : Place} (n : Nat) (hv : Dp K H v (dP p)) {kvs : List (Key × V)} {d : Dic} (h : DRep K H kvs d) : DRep K H (putK kvs (Sum.inr (nS n)) v) (dput d n p) := by
  unfold putK dput
  rw [drep_any n h]
  split
  · exact drep_map n hv h
  · exact drep_snoc n hv h
theorem drep_drop (n : Nat) : ∀ {kvs : List (Key × V)} {d : Dic}, DRep K H kvs d → DRep K H (dropK kvs (Sum.inr (nS n))) (ddel d n)
  | [], [], _ => trivial
  | kv :: kvs, nd :: d, h => by
    unfold dropK ddel
    by_cases c : nd.1 = n
    · have c2 : kv.1 = Sum.inr (nS n) := by rw [h.1.1, c]
      rw [List.filter_cons_of_neg (by simp [c2]), List.filter_cons_of_neg (by simp [c])]
      exact drep_drop n h.2
    · have c2 : ¬ kv.1 = Sum.inr (nS n) := by rw [h.1.1]; exact fun q => c (inr_nS.mp q)
      rw [List.filter_cons_of_pos (by simp [c2]), List.filter_cons_of_pos (by simp [c])]
      exact ⟨h.1, drep_drop n h.2⟩
/-- the sessions: of ann, of bob, none stands -/
structure SOk (K : PySem.W.Frag) (H : Hp) (ks : List (Key × V)) : Prop where
  key : ∃ bs : List Bool, bs.Nodup ∧ ks.map (·.1) = bs.map fun b => Sum.inr (whoS b)
  vals : ∀ kv ∈ ks, ∃ (n : Nat) (da : PyData) (p : Place), Imm da ∧ Dp K H kv.2 (.tuple [.none, dI n, da, dP p])
theorem imm_sess {n : Nat} {da : PyData} {p : Place} (h : Imm da) : Imm (.tuple [.none, dI n, da, dP p]) := .tup fun d hd => by
  rcases List.mem_cons.mp hd with rfl | hd
  · exact .non
  · exact imm_three (imm_dI _) h (imm_dP _) d hd
theorem SOk.keep (e : Tups H H') (f : Frz H H') {ks : List (Key × V)} (h : SOk K H ks) : SOk K H' ks := ⟨h.key, fun kv hk => by
  obtain ⟨n, da, p, h1, h2⟩ := h.vals kv hk
  exact ⟨n, da, p, h1, dp_keep e f (imm_sess h1) h2⟩⟩
theorem SOk.nil : SOk K H [] := ⟨⟨[], List.nodup_nil, rfl⟩, fun kv hk => by cases hk⟩
theorem bools_le {bs : List Bool} (h : bs.Nodup) : bs.length ≤ 2 := by
  match bs, h with
  | [], _ => exact Nat.zero_le _
  | [_], _ => exact Nat.le_succ _
  | [_, _], _ => exact Nat.le_refl _
  | a :: b :: c :: r, h =>
    exfalso
    obtain ⟨h1, h2⟩ := List.nodup_cons.mp h
    obtain ⟨h3, _⟩ := List.nodup_cons.mp h2
    cases a <;> cases b <;> cases c <;> simp at h1 h3
theorem SOk.len {ks : List (Key × V)} (h : SOk K H ks) : ks.length ≤ 2 := by
  obtain ⟨bs, h1, h2⟩ := h.key
  have := congrArg List.length h2
  rw [List.length_map, List.length_map] at this
  rw [this]
  exact bools_le h1
theorem SOk.put {ks : List (Key × V)} (h : SOk K H ks) {b : Bool} {v : V} {n : Nat} {da : PyData} {p : Place} (hi : Imm da) (hv : Dp K H v (.tuple [.none, dI n, da, dP p])) : SOk K H (putK ks (Sum.inr (whoS b)) v) := by
  obtain ⟨bs, h1, h2⟩ := h.key
  refine ⟨?_, fun kv hk => ?_⟩
  · unfold putK
    split
    · refine ⟨bs, h1, ?_⟩
      rw [List.map_map, ← h2]
      refine List.map_congr_left fun kv _ => ?_
      show (if kv.1 = Sum.inr (whoS b) then (kv.1, v) else kv).1 = kv.1
      split <;> rfl
    · rename_i c
      refine ⟨bs ++ [b], List.nodup_append.mpr ⟨h1, by simp, fun a ha a' ha' q => c ?_⟩, by rw [List.map_append, List.map_append, h2]; rfl⟩
      rw [List.mem_singleton.mp ha'] at q
      rw [List.any_eq_true]
      have : Sum.inr (whoS a) ∈ ks.map (·.1) := by rw [h2]; exact List.mem_map.mpr ⟨a, ha, rfl⟩
      obtain ⟨kv, hk, e⟩ := List.mem_map.mp this
      exact ⟨kv, hk, by rw [decide_eq_true_eq, e, q]⟩
  · unfold putK at hk
    split at hk
    · obtain ⟨kv', hk', e⟩ := List.mem_map.mp hk
      split at e
      · rw [← e]
        exact ⟨n, da, p, hi, hv⟩
      · rw [← e]
        exact h.vals kv' hk'
    · rcases List.mem_append.mp hk with hk | hk
      · exact h.vals kv hk
      · rw [List.mem_singleton.mp hk]
        exact ⟨n, da, p, hi, hv⟩
theorem SOk.val {ks : List (Key × V)} (h : SOk K H ks) {k : Key} {v : V} (e : valV ks k = some v) : ∃ (n : Nat) (da : PyData) (p : Place), Imm da ∧ Dp K H v (.tuple [.none, dI n, da, dP p]) := by
  unfold valV at e
  obtain ⟨kv, h1, rfl⟩ := Option.map_eq_some_iff.mp e
  exact h.vals kv (List.mem_of_find?_eq_some h1)
end
/-! ### the house -/
structure HR (K : PySem.W.Frag) (H : Hp) (x : HX) (h : House) : Prop where
  mem : SqT K H x.mem (h.mem.map fun n => V.str (nS n))
  row : LstAt K H x.row (h.row.map dT)
  done : Dp K H (.ref x.done) (dP h.done)
  st : SqT K H x.st [.ref x.stn, .ref x.sts]
  stn : ∃ kn, H x.stn = some (.dK kn) ∧ kn.length ≤ 100
  sts : ∃ ks, H x.sts = some (.dK ks) ∧ SOk K H ks
  fresh : ∃ vs, H x.fresh = some (.lst vs) ∧ vs.length = h.fresh
  prom : ∃ kvs, H x.prom = some (.dK kvs) ∧ DRep K H kvs h.promises
  tak : ∃ kvs, H x.tak = some (.dK kvs) ∧ DRep K H kvs h.taken
  heard : H x.heard = some (.dK [])
  rf : x.row ≠ x.fresh
  nd : [x.stn, x.sts, x.prom, x.tak, x.heard].Nodup
structure HAt (K : PySem.W.Frag) (H : Hp) (x : HX) (h : House) : Prop where
  ob : H x.p = some (.ins (CH K) x.dx (hfs x h))
  r : HR K H x h
def Own (x : HX) (b : Addr) : Prop := b = x.p ∨ b = x.row ∨ b = x.stn ∨ b = x.sts ∨ b = x.fresh ∨ b = x.prom ∨ b = x.tak ∨ b = x.heard
section
variable {K : PySem.W.Frag} {H H' H'' : Hp} {x x' x'' : HX} {h h' : House}
theorem HR.of (i : HR K H x h) {h' : House} (e1 : h'.mem = h.mem := by rfl) (e2 : h'.row = h.row := by rfl) (e3 : h'.done = h.done := by rfl) (e4 : h'.fresh = h.fresh := by rfl) (e5 : h'.promises = h.promises := by rfl) (e6 : h'.taken = h.taken := by rfl) : HR K H x h' :=
  ⟨by rw [e1]; exact i.mem, by rw [e2]; exact i.row, by rw [e3]; exact i.done, i.st, i.stn, i.sts, by rw [e4]; exact i.fresh, by rw [e5]; exact i.prom, by rw [e6]; exact i.tak, i.heard, i.rf, i.nd⟩
theorem HR.stay (i : HR K H x h) (tu : Tups H H') (fr : Frz H H') (k : ∀ b o, H b = some o → Own x b → b ≠ x.p → H' b = some o) (np : x.row ≠ x.p ∧ x.stn ≠ x.p ∧ x.sts ≠ x.p ∧ x.fresh ≠ x.p ∧ x.prom ≠ x.p ∧ x.tak ≠ x.p ∧ x.heard ≠ x.p) : HR K H' x h := by
  obtain ⟨n1, n2, n3, n4, n5, n6, n7⟩ := np
  refine ⟨sqT_keep tu fr i.mem, ?_, dp_keep tu fr (imm_dP _) i.done, sqT_keep tu fr i.st, ?_, ?_, ?_, ?_, ?_, k _ _ i.heard (by simp [Own]) n7, i.rf, i.nd⟩
  · obtain ⟨vs, a, b⟩ := i.row
    exact ⟨vs, k _ _ a (by simp [Own]) n1, dpA_keep tu fr (imm_map imm_dT _) b⟩
  · obtain ⟨kn, a, b⟩ := i.stn
    exact ⟨kn, k _ _ a (by simp [Own]) n2, b⟩
  · obtain ⟨kn, a, b⟩ := i.sts
    exact ⟨kn, k _ _ a (by simp [Own]) n3, b.keep tu fr⟩
  · obtain ⟨vs, a, b⟩ := i.fresh
    exact ⟨vs, k _ _ a (by simp [Own]) n4, b⟩
  · obtain ⟨vs, a, b⟩ := i.prom
    exact ⟨vs, k _ _ a (by simp [Own]) n5, drep_keep tu fr b⟩
  · obtain ⟨vs, a, b⟩ := i.tak
    exact ⟨vs, k _ _ a (by simp [Own]) n6, drep_keep tu fr b⟩
theorem HR.np (i : HR K H x h) {o : HO} (ho : H x.p = some o) (hl : ∀ xs, o ≠ .lst xs) (hd : ∀ kvs, o ≠ .dK kvs) : x.row ≠ x.p ∧ x.stn ≠ x.p ∧ x.sts ≠ x.p ∧ x.fresh ≠ x.p ∧ x.prom ≠ x.p ∧ x.tak ≠ x.p ∧ x.heard ≠ x.p := by
  obtain ⟨_, a1, _⟩ := i.row
  obtain ⟨_, a2, _⟩ := i.stn
  obtain ⟨_, a3, _⟩ := i.sts
  obtain ⟨_, a4, _⟩ := i.fresh
  obtain ⟨_, a5, _⟩ := i.prom
  obtain ⟨_, a6, _⟩ := i.tak
  exact ⟨ne_of a1 ho fun q => hl _ q.symm, ne_of a2 ho fun q => hd _ q.symm, ne_of a3 ho fun q => hd _ q.symm, ne_of a4 ho fun q => hl _ q.symm, ne_of a5 ho fun q => hd _ q.symm, ne_of a6 ho fun q => hd _ q.symm, ne_of i.heard ho fun q => hd _ q.symm⟩
theorem HAt.np (i : HAt K H x h) : x.row ≠ x.p ∧ x.stn ≠ x.p ∧ x.sts ≠ x.p ∧ x.fresh ≠ x.p ∧ x.prom ≠ x.p ∧ x.tak ≠ x.p ∧ x.heard ≠ x.p := i.r.np i.ob (fun _ q => by cases q) (fun _ q => by cases q)
theorem ex_tups (e : Ex H H') : Tups H H' := fun b xs q => e _ _ q
theorem ex_frz (e : Ex H H') : Frz H H' := fun b o u q => e _ _ q
theorem HR.ex (e : Ex H H') (i : HR K H x h) : HR K H' x h := by
  refine ⟨Evl.ex_t e i.mem, i.row.ex e, dp_ex e i.done, Evl.ex_t e i.st, ?_, ?_, ?_, ?_, ?_, e _ _ i.heard, i.rf, i.nd⟩
  · obtain ⟨kn, a, b⟩ := i.stn
    exact ⟨kn, e _ _ a, b⟩
  · obtain ⟨kn, a, b⟩ := i.sts
    exact ⟨kn, e _ _ a, b.keep (ex_tups e) (ex_frz e)⟩
  · obtain ⟨vs, a, b⟩ := i.fresh
    exact ⟨vs, e _ _ a, b⟩
  · obtain ⟨vs, a, b⟩ := i.prom
    exact ⟨vs, e _ _ a, drep_keep (ex_tups e) (ex_frz e) b⟩
  · obtain ⟨vs, a, b⟩ := i.tak
    exact ⟨vs, e _ _ a, drep_keep (ex_tups e) (ex_frz e) b⟩
theorem HAt.ex (e : Ex H H') (i : HAt K H x h) : HAt K H' x h := ⟨e _ _ i.ob, i.r.ex e⟩
/-- each address of its own is tracked, no tuple, nothing locked -/
theorem HAt.own (i : HAt K H x h) {b : Addr} (hb : Own x b) : ∃ o, H b = some o ∧ (∀ xs, o ≠ .tup xs) ∧ ∀ u v, o ≠ .frz u v := by
  rcases hb with rfl | rfl | rfl | rfl | rfl | rfl | rfl | rfl
  · exact ⟨_, i.ob, fun _ q => (by cases q), fun _ _ q => (by cases q)⟩
  · obtain ⟨_, a, _⟩ := i.r.row; exact ⟨_, a, fun _ q => (by cases q), fun _ _ q => (by cases q)⟩
  · obtain ⟨_, a, _⟩ := i.r.stn; exact ⟨_, a, fun _ q => (by cases q), fun _ _ q => (by cases q)⟩
  · obtain ⟨_, a, _⟩ := i.r.sts; exact ⟨_, a, fun _ q => (by cases q), fun _ _ q => (by cases q)⟩
  · obtain ⟨_, a, _⟩ := i.r.fresh; exact ⟨_, a, fun _ q => (by cases q), fun _ _ q => (by cases q)⟩
  · obtain ⟨_, a, _⟩ := i.r.prom; exact ⟨_, a, fun _ q => (by cases q), fun _ _ q => (by cases q)⟩
  · obtain ⟨_, a, _⟩ := i.r.tak; exact ⟨_, a, fun _ q => (by cases q), fun _ _ q => (by cases q)⟩
  · exact ⟨_, i.r.heard, fun _ q => (by cases q), fun _ _ q => (by cases q)⟩
theorem HAt.new (i : HAt K H x h) {b : Addr} (hb : H b = none) : ¬ Own x b := fun q => by
  obtain ⟨o, a, _⟩ := i.own q
  rw [hb] at a
  cases a
/-- how a house may change: what isn't its own stands; its addresses are its own or new -/
structure To (x : HX) (H : Hp) (x' : HX) (H' : Hp) : Prop where
  keep : ∀ b o, H b = some o → ¬ Own x b → H' b = some o
  own : ∀ b, Own x' b → Own x b ∨ H b = none
  p : x'.p = x.p
  mem : x'.mem = x.mem
  live : ∀ b, H b ≠ none → H' b ≠ none
theorem live_ex (e : Ex H H') : ∀ b, H b ≠ none → H' b ≠ none := fun b hb => by
  cases z : H b with
  | none => exact absurd z hb
  | some o => rw [e b o z]; intro q; cases q
theorem live_upd {q : Addr} {o : HO} : ∀ b, H b ≠ none → L2.upd H q o b ≠ none := fun b hb => by
  by_cases z : b = q
  · subst z; rw [upd_same]; intro q; cases q
  · rw [upd_ne z]; exact hb
theorem To.refl (x : HX) (H : Hp) : To x H x H := ⟨fun _ _ e _ => e, fun _ q => .inl q, rfl, rfl, fun _ q => q⟩
theorem To.ex (x : HX) (e : Ex H H') : To x H x H' := ⟨fun _ _ q _ => e _ _ q, fun _ q => .inl q, rfl, rfl, live_ex e⟩
theorem To.trans (a : To x H x' H') (b : To x' H' x'' H'') : To x H x'' H'' where
  keep := fun c o q n => b.keep c o (a.keep c o q n) fun z => (a.own c z).elim n fun e => by rw [q] at e; cases e
  own := fun c z => by
    rcases b.own c z with z | z
    · exact a.own c z
    · cases q : H c with
      | none => exact .inr rfl
      | some o =>
        left
        apply Classical.byContradiction
        intro n
        rw [a.keep c o q n] at z
        cases z
  p := b.p.trans a.p
  mem := b.mem.trans a.mem
  live := fun c q => b.live c (a.live c q)
theorem To.back (t : To x H x' H') {c : Addr} (q : H' c = none) : H c = none := Classical.byContradiction fun z => t.live c z q
theorem To.tups (t : To x H x' H') (i : HAt K H x h) : Tups H H' := fun b xs q => t.keep b _ q fun z => by
  obtain ⟨o, a, n, _⟩ := i.own z
  rw [q] at a
  exact n _ (Option.some.inj a).symm
theorem To.frz (t : To x H x' H') (i : HAt K H x h) : Frz H H' := fun b u v q => t.keep b _ q fun z => by
  obtain ⟨o, a, _, n⟩ := i.own z
  rw [q] at a
  exact n _ _ (Option.some.inj a).symm
theorem To.dp (t : To x H x' H') (i : HAt K H x h) {d : PyData} {v : V} (hi : Imm d) (hv : Dp K H v d) : Dp K H' v d := dp_keep (t.tups i) (t.frz i) hi hv
theorem To.dpA (t : To x H x' H') (i : HAt K H x h) {ds : List PyData} {vs : List V} (hi : ∀ d ∈ ds, Imm d) (hv : DpAll K H vs ds) : DpAll K H' vs ds := dpA_keep (t.tups i) (t.frz i) hi hv
/-- an address that was not of its own stays so -/
theorem To.out (t : To x H x' H') {b : Addr} {o : HO} (q : H b = some o) (n : ¬ Own x b) : ¬ Own x' b := fun z => (t.own b z).elim n fun e => by rw [q] at e; cases e
/-- a new list stays while the house changes -/
theorem To.lst (t : To x H x' H') (i : HAt K H x h) {p : Addr} {ds : List PyData} (l : LstAt K H p ds) (n : ¬ Own x p) (hi : ∀ d ∈ ds, Imm d) : LstAt K H' p ds := by
  obtain ⟨vs, a, b⟩ := l
  exact ⟨vs, t.keep _ _ a n, t.dpA i hi b⟩
/-! ### stores -/
variable {σ : L2.St} {tv : TE} {f : Str} {D : Ends}
/-- the store to an attribute, the rest as it is told for the new object -/
theorem HAt.upd (i : HAt K H x h) (hr : HR K H x' h') (hp : x'.p = x.p) (hm : x'.mem = x.mem) (ho : ∀ b, Own x' b → Own x b ∨ H b = none ∨ ∃ o, H b = some o) :
    HAt K (upd H x.p (.ins (CH K) x'.dx (hfs x' h'))) x' h' := by
  have np := hr.np (by rw [hp]; exact i.ob) (fun _ q => by cases q) (fun _ q => by cases q)
  rw [hp] at np
  refine ⟨by rw [hp]; exact upd_same, ?_⟩
  have tu : Tups H (L2.upd H x.p (.ins (CH K) x'.dx (hfs x' h'))) := fun b xs q => by rw [upd_ne (ne_of q i.ob (fun z => by cases z))]; exact q
  have fr : Frz H (L2.upd H x.p (.ins (CH K) x'.dx (hfs x' h'))) := fun b u v q => by rw [upd_ne (ne_of q i.ob (fun z => by cases z))]; exact q
  exact hr.stay tu fr (fun b o q _ n => by rw [upd_ne (by rw [← hp]; exact n)]; exact q) (by rw [hp]; exact np)
theorem To.upd (i : HAt K H x h) (hp : x'.p = x.p) (hm : x'.mem = x.mem) {o : HO} (ho : ∀ b, Own x' b → Own x b ∨ H b = none) : To x H x' (upd H x.p o) :=
  ⟨fun b u q n => by rw [upd_ne (fun e => n (.inl e))]; exact q, ho, hp, hm, live_upd⟩
theorem hfs_len : (hfs x h).length < 1000 := by show 16 < 1000; decide
/-- self.f = e, e evaluating; P: what is known of the value, the heap behind it -/
theorem s_fldP {P : V → Hp → Prop} (h0 : σ[0]? = some (some (.ref x.p))) (cl : Cls K (CH K)) (na : NoAttr K (CH K) f) (i : HAt K H x h)
    (hv : ∀ Q : VK, (∀ v H1, Ex H H1 → P v H1 → Q v H1) → tv σ H Q)
    (k : ∀ v H1, Ex H H1 → P v H1 → ∃ x' h', putF f v (hfs x h) = hfs x' h' ∧ x'.p = x.p ∧ x'.dx = x.dx ∧ x'.mem = x.mem ∧ HR K H1 x' h' ∧ (∀ b, Own x' b → Own x b ∨ H b = none) ∧ ∀ H2, HAt K H2 x' h' → To x H x' H2 → D.nx σ H2) : sFld K (tVar 0) tv f D σ H :=
  hv _ fun v H1 e pv => by
    obtain ⟨x', h', e1, e2, e3, e4, hr, ho, kk⟩ := k v H1 e pv
    refine ⟨.ref x.p, h0, x.p, CH K, x.dx, hfs x h, rfl, e _ _ i.ob, cl, na, hfs_len, ?_⟩
    rw [e1, ← e3]
    refine kk _ ((i.ex e).upd hr e2 e4 fun b _ => ?_) ⟨fun b o q n => by rw [upd_ne (fun z => n (.inl z))]; exact e _ _ q, ho, e2, e4, fun b hb => live_upd b (live_ex e b hb)⟩
    cases q : H1 b with
    | none => exact .inr (.inl rfl)
    | some o => exact .inr (.inr ⟨o, rfl⟩)
/-- .. a value that is told by its V; the addresses stay -/
theorem s_fldV {v : V} (h0 : σ[0]? = some (some (.ref x.p))) (cl : Cls K (CH K)) (na : NoAttr K (CH K) f) (i : HAt K H x h) (hv : Evl.Ev tv σ H v) (e1 : putF f v (hfs x h) = hfs x h') (hr : HR K H x h')
    (k : ∀ H2, HAt K H2 x h' → To x H x H2 → D.nx σ H2) : sFld K (tVar 0) tv f D σ H :=
  s_fldP (P := fun u H1 => u = v) h0 cl na i (fun Q q => hv H (Evl.Ex.refl H) Q fun H1 e => q v H1 e rfl) fun u H1 e eu => by
    subst eu
    exact ⟨x, h', e1, rfl, rfl, rfl, hr.ex e, fun _ q => .inl q, k⟩
/-- self.own_done = e -/
theorem s_fldDone {p : Place} (h0 : σ[0]? = some (some (.ref x.p))) (cl : Cls K (CH K)) (na : NoAttr K (CH K) "own_done") (i : HAt K H x h) (hv : EvD K tv σ H (dP p))
    (k : ∀ H2 a, HAt K H2 { x with done := a } { h with done := p } → To x H { x with done := a } H2 → D.nx σ H2) : sFld K (tVar 0) tv "own_done" D σ H :=
  s_fldP (P := fun u H1 => Dp K H1 u (dP p)) h0 cl na i (fun Q q => hv H (Evl.Ex.refl H) Q fun v H1 e d => q v H1 e d) fun u H1 e d => by
    obtain ⟨a, xs, rfl, h1, h2⟩ := dp_tup d
    have r := i.r.ex e
    exact ⟨{ x with done := a }, { h with done := p }, p_done, rfl, rfl, rfl, ⟨r.mem, r.row, d, r.st, r.stn, r.sts, r.fresh, r.prom, r.tak, r.heard, r.rf, r.nd⟩, fun _ q => .inl q, fun H2 i2 t => k H2 a i2 t⟩
theorem nd5 {a b c d e : Addr} : [a, b, c, d, e].Nodup ↔ (a ≠ b ∧ a ≠ c ∧ a ≠ d ∧ a ≠ e) ∧ (b ≠ c ∧ b ≠ d ∧ b ≠ e) ∧ (c ≠ d ∧ c ≠ e) ∧ d ≠ e := by
  simp only [List.nodup_cons, List.mem_cons, List.not_mem_nil, not_or, or_false, not_false_eq_true, and_true, List.nodup_nil, ne_eq]
/-- self.promises = {} or {..}: a new dict -/
theorem s_fldProm {d : Dic} (h0 : σ[0]? = some (some (.ref x.p))) (cl : Cls K (CH K)) (na : NoAttr K (CH K) "promises") (i : HAt K H x h)
    (hv : ∀ Q : VK, (∀ a H1 kvs, H a = none → Ex H H1 → H1 a = some (.dK kvs) → DRep K H1 kvs d → Q (.ref a) H1) → tv σ H Q)
    (k : ∀ H2 a, HAt K H2 { x with prom := a } { h with promises := d } → To x H { x with prom := a } H2 → D.nx σ H2) : sFld K (tVar 0) tv "promises" D σ H :=
  s_fldP (P := fun u H1 => ∃ a kvs, u = .ref a ∧ H a = none ∧ H1 a = some (.dK kvs) ∧ DRep K H1 kvs d) h0 cl na i (fun Q q => hv Q fun a H1 kvs hn e ha hd => q _ H1 e ⟨a, kvs, rfl, hn, ha, hd⟩) fun u H1 e pu => by
    obtain ⟨a, kvs, rfl, hn, ha, hd⟩ := pu
    have r := i.r.ex e
    obtain ⟨⟨n1, n2, n3, n4⟩, ⟨n5, n6, n7⟩, ⟨n8, n9⟩, n10⟩ := nd5.mp r.nd
    have ne : ∀ b, Own x b → b ≠ a := fun b hb q => i.new hn (q ▸ hb)
    exact ⟨{ x with prom := a }, { h with promises := d }, p_promises, rfl, rfl, rfl, ⟨r.mem, r.row, r.done, r.st, r.stn, r.sts, r.fresh, ⟨kvs, ha, hd⟩, r.tak, r.heard, r.rf,
      nd5.mpr ⟨⟨n1, ne _ (by simp [Own]), n3, n4⟩, ⟨ne _ (by simp [Own]), n6, n7⟩, ⟨(ne _ (by simp [Own])).symm, (ne _ (by simp [Own])).symm⟩, n10⟩⟩,
      fun b q => by
        rcases q with q | q | q | q | q | q | q | q
        · exact .inl (.inl q)
        · exact .inl (.inr (.inl q))
        · exact .inl (.inr (.inr (.inl q)))
        · exact .inl (.inr (.inr (.inr (.inl q))))
        · exact .inl (.inr (.inr (.inr (.inr (.inl q)))))
        · exact .inr (q ▸ hn)
        · exact .inl (.inr (.inr (.inr (.inr (.inr (.inr (.inl q)))))))
        · exact .inl (.inr (.inr (.inr (.inr (.inr (.inr (.inr q))))))),
      fun H2 i2 t => k H2 a i2 t⟩
theorem s_fldTak {d : Dic} (h0 : σ[0]? = some (some (.ref x.p))) (cl : Cls K (CH K)) (na : NoAttr K (CH K) "taken") (i : HAt K H x h)
    (hv : ∀ Q : VK, (∀ a H1 kvs, H a = none → Ex H H1 → H1 a = some (.dK kvs) → DRep K H1 kvs d → Q (.ref a) H1) → tv σ H Q)
    (k : ∀ H2 a, HAt K H2 { x with tak := a } { h with taken := d } → To x H { x with tak := a } H2 → D.nx σ H2) : sFld K (tVar 0) tv "taken" D σ H :=
  s_fldP (P := fun u H1 => ∃ a kvs, u = .ref a ∧ H a = none ∧ H1 a = some (.dK kvs) ∧ DRep K H1 kvs d) h0 cl na i (fun Q q => hv Q fun a H1 kvs hn e ha hd => q _ H1 e ⟨a, kvs, rfl, hn, ha, hd⟩) fun u H1 e pu => by
    obtain ⟨a, kvs, rfl, hn, ha, hd⟩ := pu
    have r := i.r.ex e
    obtain ⟨⟨n1, n2, n3, n4⟩, ⟨n5, n6, n7⟩, ⟨n8, n9⟩, n10⟩ := nd5.mp r.nd
    have ne : ∀ b, Own x b → b ≠ a := fun b hb q => i.new hn (q ▸ hb)
    exact ⟨{ x with tak := a }, { h with taken := d }, p_taken, rfl, rfl, rfl, ⟨r.mem, r.row, r.done, r.st, r.stn, r.sts, r.fresh, r.prom, ⟨kvs, ha, hd⟩, r.heard, r.rf,
      nd5.mpr ⟨⟨n1, n2, ne _ (by simp [Own]), n4⟩, ⟨n5, ne _ (by simp [Own]), n7⟩, ⟨ne _ (by simp [Own]), n9⟩, (ne _ (by simp [Own])).symm⟩⟩,
      fun b q => by
        rcases q with q | q | q | q | q | q | q | q
        · exact .inl (.inl q)
        · exact .inl (.inr (.inl q))
        · exact .inl (.inr (.inr (.inl q)))
        · exact .inl (.inr (.inr (.inr (.inl q))))
        · exact .inl (.inr (.inr (.inr (.inr (.inl q)))))
        · exact .inl (.inr (.inr (.inr (.inr (.inr (.inl q))))))
        · exact .inr (q ▸ hn)
        · exact .inl (.inr (.inr (.inr (.inr (.inr (.inr (.inr q))))))),
      fun H2 i2 t => k H2 a i2 t⟩
theorem s_fldHeard (h0 : σ[0]? = some (some (.ref x.p))) (cl : Cls K (CH K)) (na : NoAttr K (CH K) "heard_at") (i : HAt K H x h)
    (hv : ∀ Q : VK, (∀ a H1, H a = none → Ex H H1 → H1 a = some (.dK []) → Q (.ref a) H1) → tv σ H Q)
    (k : ∀ H2 a, HAt K H2 { x with heard := a } h → To x H { x with heard := a } H2 → D.nx σ H2) : sFld K (tVar 0) tv "heard_at" D σ H :=
  s_fldP (P := fun u H1 => ∃ a, u = .ref a ∧ H a = none ∧ H1 a = some (.dK [])) h0 cl na i (fun Q q => hv Q fun a H1 hn e ha => q _ H1 e ⟨a, rfl, hn, ha⟩) fun u H1 e pu => by
    obtain ⟨a, rfl, hn, ha⟩ := pu
    have r := i.r.ex e
    obtain ⟨⟨n1, n2, n3, n4⟩, ⟨n5, n6, n7⟩, ⟨n8, n9⟩, n10⟩ := nd5.mp r.nd
    have ne : ∀ b, Own x b → b ≠ a := fun b hb q => i.new hn (q ▸ hb)
    exact ⟨{ x with heard := a }, h, p_heard, rfl, rfl, rfl, ⟨r.mem, r.row, r.done, r.st, r.stn, r.sts, r.fresh, r.prom, r.tak, ha, r.rf,
      nd5.mpr ⟨⟨n1, n2, n3, ne _ (by simp [Own])⟩, ⟨n5, n6, ne _ (by simp [Own])⟩, ⟨n8, ne _ (by simp [Own])⟩, ne _ (by simp [Own])⟩⟩,
      fun b q => by
        rcases q with q | q | q | q | q | q | q | q
        · exact .inl (.inl q)
        · exact .inl (.inr (.inl q))
        · exact .inl (.inr (.inr (.inl q)))
        · exact .inl (.inr (.inr (.inr (.inl q))))
        · exact .inl (.inr (.inr (.inr (.inr (.inl q)))))
        · exact .inl (.inr (.inr (.inr (.inr (.inr (.inl q))))))
        · exact .inl (.inr (.inr (.inr (.inr (.inr (.inr (.inl q)))))))
        · exact .inr (q ▸ hn),
      fun H2 i2 t => k H2 a i2 t⟩
/-- self.fresh = [] -/
theorem s_fldFresh (h0 : σ[0]? = some (some (.ref x.p))) (cl : Cls K (CH K)) (na : NoAttr K (CH K) "fresh") (i : HAt K H x h) (hv : EvN K tv σ H [])
    (k : ∀ H2 a, HAt K H2 { x with fresh := a } { h with fresh := 0 } → To x H { x with fresh := a } H2 → D.nx σ H2) : sFld K (tVar 0) tv "fresh" D σ H :=
  s_fldP (P := fun u H1 => ∃ a, u = .ref a ∧ H a = none ∧ LstAt K H1 a []) h0 cl na i (fun Q q => hv H (Evl.Ex.refl H) Q fun a H1 hn e ha => q _ H1 e ⟨a, rfl, hn, ha⟩) fun u H1 e pu => by
    obtain ⟨a, rfl, hn, vs, ha, hd⟩ := pu
    have r := i.r.ex e
    have ne : ∀ b, Own x b → b ≠ a := fun b hb q => i.new hn (q ▸ hb)
    exact ⟨{ x with fresh := a }, { h with fresh := 0 }, p_fresh, rfl, rfl, rfl, ⟨r.mem, r.row, r.done, r.st, r.stn, r.sts, ⟨vs, ha, by rw [dpA0 hd]; rfl⟩, r.prom, r.tak, r.heard, ne _ (by simp [Own]), r.nd⟩,
      fun b q => by
        rcases q with q | q | q | q | q | q | q | q
        · exact .inl (.inl q)
        · exact .inl (.inr (.inl q))
        · exact .inl (.inr (.inr (.inl q)))
        · exact .inl (.inr (.inr (.inr (.inl q))))
        · exact .inr (q ▸ hn)
        · exact .inl (.inr (.inr (.inr (.inr (.inr (.inl q))))))
        · exact .inl (.inr (.inr (.inr (.inr (.inr (.inr (.inl q)))))))
        · exact .inl (.inr (.inr (.inr (.inr (.inr (.inr (.inr q))))))),
      fun H2 i2 t => k H2 a i2 t⟩
/-- self.own_row = a new list -/
theorem s_fldRow {r' : Row} (h0 : σ[0]? = some (some (.ref x.p))) (cl : Cls K (CH K)) (na : NoAttr K (CH K) "own_row") (i : HAt K H x h) (hv : EvN K tv σ H (r'.map dT))
    (k : ∀ H2 a, HAt K H2 { x with row := a } { h with row := r' } → To x H { x with row := a } H2 → D.nx σ H2) : sFld K (tVar 0) tv "own_row" D σ H :=
  s_fldP (P := fun u H1 => ∃ a, u = .ref a ∧ H a = none ∧ LstAt K H1 a (r'.map dT)) h0 cl na i (fun Q q => hv H (Evl.Ex.refl H) Q fun a H1 hn e ha => q _ H1 e ⟨a, rfl, hn, ha⟩) fun u H1 e pu => by
    obtain ⟨a, rfl, hn, ha⟩ := pu
    have r := i.r.ex e
    have ne : ∀ b, Own x b → b ≠ a := fun b hb q => i.new hn (q ▸ hb)
    exact ⟨{ x with row := a }, { h with row := r' }, p_row, rfl, rfl, rfl, ⟨r.mem, ha, r.done, r.st, r.stn, r.sts, r.fresh, r.prom, r.tak, r.heard, (ne _ (by simp [Own])).symm, r.nd⟩,
      fun b q => by
        rcases q with q | q | q | q | q | q | q | q
        · exact .inl (.inl q)
        · exact .inr (q ▸ hn)
        · exact .inl (.inr (.inr (.inl q)))
        · exact .inl (.inr (.inr (.inr (.inl q))))
        · exact .inl (.inr (.inr (.inr (.inr (.inl q)))))
        · exact .inl (.inr (.inr (.inr (.inr (.inr (.inl q))))))
        · exact .inl (.inr (.inr (.inr (.inr (.inr (.inr (.inl q)))))))
        · exact .inl (.inr (.inr (.inr (.inr (.inr (.inr (.inr q))))))),
      fun H2 i2 t => k H2 a i2 t⟩
/-- a new state -/
structure StNew (K : PySem.W.Frag) (H H1 : Hp) (a n s : Addr) : Prop where
  t : SqT K H1 a [.ref n, .ref s]
  kn : ∃ kn, H1 n = some (.dK kn) ∧ kn.length ≤ 100
  ks : ∃ ks, H1 s = some (.dK ks) ∧ SOk K H1 ks
  hn : H n = none
  hs : H s = none
  ne : n ≠ s
/-- self.own_state = a new state -/
theorem s_fldState (h0 : σ[0]? = some (some (.ref x.p))) (cl : Cls K (CH K)) (na : NoAttr K (CH K) "own_state") (i : HAt K H x h)
    (hv : ∀ Q : VK, (∀ a n s H1, Ex H H1 → StNew K H H1 a n s → Q (.ref a) H1) → tv σ H Q)
    (k : ∀ H2 a n s, HAt K H2 { x with st := a, stn := n, sts := s } h → To x H { x with st := a, stn := n, sts := s } H2 → D.nx σ H2) : sFld K (tVar 0) tv "own_state" D σ H :=
  s_fldP (P := fun u H1 => ∃ a n s, u = .ref a ∧ StNew K H H1 a n s) h0 cl na i (fun Q q => hv Q fun a n s H1 e z => q _ H1 e ⟨a, n, s, rfl, z⟩) fun u H1 e pu => by
    obtain ⟨a, n, s, rfl, z⟩ := pu
    have r := i.r.ex e
    obtain ⟨⟨n1, n2, n3, n4⟩, ⟨n5, n6, n7⟩, ⟨n8, n9⟩, n10⟩ := nd5.mp r.nd
    have nen : ∀ b, Own x b → n ≠ b := fun b hb q => i.new z.hn (q ▸ hb)
    have nes : ∀ b, Own x b → s ≠ b := fun b hb q => i.new z.hs (q ▸ hb)
    exact ⟨{ x with st := a, stn := n, sts := s }, h, p_state, rfl, rfl, rfl, ⟨r.mem, r.row, r.done, z.t, z.kn, z.ks, r.fresh, r.prom, r.tak, r.heard, r.rf,
      nd5.mpr ⟨⟨z.ne, nen _ (by simp [Own]), nen _ (by simp [Own]), nen _ (by simp [Own])⟩, ⟨nes _ (by simp [Own]), nes _ (by simp [Own]), nes _ (by simp [Own])⟩, ⟨n8, n9⟩, n10⟩⟩,
      fun b q => by
        rcases q with q | q | q | q | q | q | q | q
        · exact .inl (.inl q)
        · exact .inl (.inr (.inl q))
        · exact .inr (q ▸ z.hn)
        · exact .inr (q ▸ z.hs)
        · exact .inl (.inr (.inr (.inr (.inr (.inl q)))))
        · exact .inl (.inr (.inr (.inr (.inr (.inr (.inl q))))))
        · exact .inl (.inr (.inr (.inr (.inr (.inr (.inr (.inl q)))))))
        · exact .inl (.inr (.inr (.inr (.inr (.inr (.inr (.inr q))))))),
      fun H2 i2 t => k H2 a n s i2 t⟩
end
end Wn

set_option Elab.async false
set_option linter.all false
set_option maxRecDepth 100000
set_option maxHeartbeats 4000000
/-! Rules that the kit lacks: > and >= of data, max and min of two places, a star in a target. -/
namespace Wn
open PySem PySem.Spec PyProof.Rows L2
open Zab hiding World Place Row
section
variable {X : Cx}
def rGtD (K : PySem.W.Frag) : R2 := fun x y H Q => ∃ d e, Dp K H x d ∧ Dp K H y e ∧ PySem.W.alike d e = true ∧ d ≠ .none ∧ min d.depth e.depth ≤ 60 ∧ Q (.bl (PySem.W.dataLt e d)) H
def rGeD (K : PySem.W.Frag) : R2 := fun x y H Q => ∃ d e, Dp K H x d ∧ Dp K H y e ∧ PySem.W.alike d e = true ∧ d ≠ .none ∧ min d.depth e.depth ≤ 60 ∧ Q (.bl (!PySem.W.dataLt d e)) H
theorem op_gtD (hu : X.A.units + 64 < cLine) : OpR X (compareOp .Gt) (rGtD X.K) := by
  intro pins s σ H x y v u Q I rx ry h
  obtain ⟨d, e, hd, he, sd, se, sz, q⟩ := h
  obtain ⟨as, r1⟩ := Dp.reads I d x v hd rx
  obtain ⟨bs, r2⟩ := Dp.reads I e y u he ry
  exact PySem.W.gt_data r1 r2 sd se (by omega) ⟨.bl _, H, I, rfl, q⟩
theorem op_geD (hu : X.A.units + 64 < cLine) : OpR X (compareOp .GtE) (rGeD X.K) := by
  intro pins s σ H x y v u Q I rx ry h
  obtain ⟨d, e, hd, he, sd, se, sz, q⟩ := h
  obtain ⟨as, r1⟩ := Dp.reads I d x v hd rx
  obtain ⟨bs, r2⟩ := Dp.reads I e y u he ry
  exact PySem.W.ge_data r1 r2 sd se (by omega) ⟨.bl _, H, I, rfl, q⟩
end
theorem dataLt_P (p q : Place) : PySem.W.dataLt (dP p) (dP q) = decide (Plt p q) := by
  have h := PySem.W.dataLt_ii (p.1 : Int) (p.2 : Int) (q.1 : Int) (q.2 : Int)
  refine h.trans ?_
  by_cases c : Plt p q
  · rw [decide_eq_true c]; exact decide_eq_true (by unfold Plt at c; omega)
  · rw [decide_eq_false c]; exact decide_eq_false (by unfold Plt at c; omega)
theorem alike_P (p q : Place) : PySem.W.alike (dP p) (dP q) = true := by simp [dP, dI, PySem.W.alike, PySem.W.alikeAll]
theorem depth_P (p : Place) : (dP p).depth ≤ 2 := by have := (shp_dP p).2; omega
section
variable {K : PySem.W.Frag}
theorem rd_gtP {p q : Place} : RD K (rGtD K) (dP p) (dP q) (.bool (decide (Plt q p))) := fun H u v hu hv Q k => ⟨_, _, hu, hv, alike_P p q, (by intro z; cases z), (by have := depth_P p; omega), by rw [dataLt_P]; exact k _ H (Evl.Ex.refl H) (.bl _)⟩
/-- (epoch, last) >= (own epoch, own last) -/
theorem rd_geQ {a b : Nat} {p q : Place} : RD K (rGeD K) (.tuple [dI a, dP p]) (.tuple [dI b, dP q]) (.bool (decide (b < a ∨ (b = a ∧ Ple q p)))) := fun H u v hu hv Q k => by
  have al : PySem.W.alike (dI a) (dI b) = true := by simp [dI, PySem.W.alike]
  refine ⟨_, _, hu, hv, ?_, (by intro z; cases z), ?_, ?_⟩
  · have := alike_P p q
    simp only [PySem.W.alike, PySem.W.alikeAll, al, this, Bool.and_true]
  · have h := (ShpA.cons (shp_dI 1 a) (.cons (shp_dP p) (.nil 1))).tup.2
    omega
  · have e : (!PySem.W.dataLt (.tuple [dI a, dP p]) (.tuple [dI b, dP q])) = decide (b < a ∨ (b = a ∧ Ple q p)) := by
      rw [PySem.W.dataLt_pair al (alike_P p q), dataLt_P, eqv_dI, eqv_dP]
      have z : PySem.W.dataLt (dI a) (dI b) = decide (a < b) := by
        refine (PySem.W.dataLt_int _ _).trans ?_
        by_cases c : a < b
        · rw [decide_eq_true c]; exact decide_eq_true (by omega)
        · rw [decide_eq_false c]; exact decide_eq_false (by omega)
      rw [z]
      by_cases c : a = b
      · subst c
        rw [decide_eq_true rfl, if_pos rfl]
        by_cases d : p = q
        · subst d
          rw [decide_eq_true rfl, if_pos rfl]
          exact (decide_eq_true (Or.inr ⟨rfl, Ple.refl _⟩)).symm
        · rw [decide_eq_false d, if_neg Bool.false_ne_true]
          by_cases g : Plt p q
          · rw [decide_eq_true g]
            exact (decide_eq_false fun z => by
              rcases z with z | z
              · omega
              · exact not_plt.mpr z.2 g).symm
          · rw [decide_eq_false g]
            exact (decide_eq_true (Or.inr ⟨rfl, not_plt.mp g⟩)).symm
      · rw [decide_eq_false c, if_neg Bool.false_ne_true]
        by_cases g : a < b
        · rw [decide_eq_true g]; exact (decide_eq_false (by omega)).symm
        · rw [decide_eq_false g]; exact (decide_eq_true (by omega)).symm
    rw [e]
    exact k _ H (Evl.Ex.refl H) (.bl _)
end
/-! ### max, min of two places -/
section
variable {X : Cx}
def rMax2P (K : PySem.W.Frag) : List V → Hp → VK → Prop := fun xs H Q => ∃ x y p q, xs = [x, y] ∧ Dp K H x (dP p) ∧ Dp K H y (dP q) ∧ Q (if Plt p q then y else x) H
def rMin2P (K : PySem.W.Frag) : List V → Hp → VK → Prop := fun xs H Q => ∃ x y p q, xs = [x, y] ∧ Dp K H x (dP p) ∧ Dp K H y (dP q) ∧ Q (if Plt q p then y else x) H

theorem max2_data {prog : Program} {w : World} {A : Around} {E : Value → Shared → Prop} {s : Shared} {a b : Value} {p q : Place} {as bs : List Addr} {Q : Value → Shared → Prop} (hh : A.handled = none) (r1 : Reads s.heap a (dP p) as) (r2 : Reads s.heap b (dP q) bs) (hu : A.units + 64 < cLine)
    (h : ∀ h' tk, (∀ b o, s.heap.get? b = some o → h'.get? b = some o) → Q (if Plt p q then b else a) { s with heap := h', toks := tk }) : wpAny (model prog w) A (call (.builtin "max") [a, b]) Q E s := by
  have hname : (toString "max" ++ toString ".loop" : String) = "max.loop" := by decide
  refine call_function_tree F.kind_max F.plain_max F.entry_max (F.args_max2 _ _) ?_
  show wpAny _ A.in1 (Builtin.Builtins.bindParams "max" ["key", "default"] 0 ⟨[], []⟩ >>= _) _ _ s
  refine wpAny_bind (wpAny_of_eq (show Builtin.Builtins.bindParams "max" ["key", "default"] 0 ⟨[], []⟩ = pure [none, none] from rfl) ?_)
  show wpAny _ A.in1 (newTuple [a, b] >>= _) _ _ s
  refine wpAny_bind (wpAny_newObj_type ?_)
  have hT : (s.heap.push { cls := .type "tuple", data := .seq #[a, b] }).IsTuple s.heap.objs.size #[a, b] := ⟨_, Heap.get?_push_size _ rfl, rfl, 0, rfl⟩
  have k1 : ∀ c o, s.heap.get? c = some o → (s.heap.push { cls := .type "tuple", data := .seq #[a, b] }).get? c = some o := fun c o e => Heap.get?_push_of_some _ e
  have hr : ReadsAll (s.heap.push { cls := .type "tuple", data := .seq #[a, b] }) (#[a, b] : Array Value).toList (dP p :: [dP q]) (as ++ (bs ++ [])) := .cons (PySem.W.reads_keeps k1 r1) (.cons (PySem.W.reads_keeps k1 r2) .nil)
  have ha : PySem.W.AlikeAll (dP p :: [dP q]) := ⟨fun x hx y hy => by
    rcases List.mem_cons.mp hx with rfl | hx
    · rcases List.mem_cons.mp hy with rfl | hy
      · exact alike_P _ _
      · rw [List.mem_singleton.mp hy]; exact alike_P _ _
    · rw [List.mem_singleton.mp hx]
      rcases List.mem_cons.mp hy with rfl | hy
      · exact alike_P _ _
      · rw [List.mem_singleton.mp hy]; exact alike_P _ _, fun x hx => by
    rcases List.mem_cons.mp hx with rfl | hx
    · intro z; cases z
    · rw [List.mem_singleton.mp hx]; intro z; cases z⟩
  have hd : PyData.depthAll (dP p :: [dP q]) ≤ 8 := by
    have e1 : (dP p).depth = 1 := by simp [dP, dI, PyData.depth, PyData.depthAll]
    have e2 : (dP q).depth = 1 := by simp [dP, dI, PyData.depth, PyData.depthAll]
    simp [PyData.depthAll, e1, e2]
  refine wpAny_bind (PySem.W.iter_tupleW (A := A.in1) hh hT fun s₂ e W st hfp hw hk => ?_)
  refine wpAny_bind (wpAny_newObj_type ?_)
  have hSf : s₂.heap.objs.size ∉ _ := fun hm => Nat.lt_irrefl _ (hfp _ hm)
  rw [hname]
  refine wpAny_pure ⟨plainId_quiet F.plain_max_loop _, PySem.codeAny_max_loop_firstH W _ hw _ (PySem.W.cmpIn_gt (A := A.in1) hr ha (by show A.units + 1 + _ < _; omega)) s₂.heap.objs.size hSf (PySem.fresh_in hk) _ (by show 0 < 2; decide) (fun b o e => Heap.get?_push_of_some _ (hk b o e)) (W.frame 0 s₂ _ s₂.toks st (Nat.le_refl _) fun b _ o e => Heap.get?_push_of_some _ e) (Heap.get?_push_size _ rfl) fun v s' hP hm => ?_⟩
  have m := Moved.drop_new (tk := s₂.toks) hm (Nat.le_refl _)
  obtain ⟨h', tk, rfl, hk'⟩ := PySem.W.moved_old e rfl m
  have hv : v = if Plt p q then b else a := by
    have hP' : (#[a, b] : Array Value)[argBest (fun i j => PySem.W.dataLt ((dP p :: [dP q]).getD j .none) ((dP p :: [dP q]).getD i .none)) 1]? = some v := hP
    have e1 : argBest (fun i j => PySem.W.dataLt ((dP p :: [dP q]).getD j .none) ((dP p :: [dP q]).getD i .none)) 1 = if Plt p q then 1 else 0 := by
      show (if PySem.W.dataLt (dP p) (dP q) = true then 1 else 0) = _
      rw [dataLt_P]
      by_cases c : Plt p q
      · rw [decide_eq_true c, if_pos rfl, if_pos c]
      · rw [decide_eq_false c, if_neg Bool.false_ne_true, if_neg c]
    rw [e1] at hP'
    by_cases c : Plt p q
    · rw [if_pos c] at hP' ⊢
      exact (Option.some.inj hP').symm
    · rw [if_neg c] at hP' ⊢
      exact (Option.some.inj hP').symm
  rw [hv]
  exact h h' tk fun c o e => hk' c o (k1 c o e)
theorem min2_data {prog : Program} {w : World} {A : Around} {E : Value → Shared → Prop} {s : Shared} {a b : Value} {p q : Place} {as bs : List Addr} {Q : Value → Shared → Prop} (hh : A.handled = none) (r1 : Reads s.heap a (dP p) as) (r2 : Reads s.heap b (dP q) bs) (hu : A.units + 64 < cLine)
    (h : ∀ h' tk, (∀ b o, s.heap.get? b = some o → h'.get? b = some o) → Q (if Plt q p then b else a) { s with heap := h', toks := tk }) : wpAny (model prog w) A (call (.builtin "min") [a, b]) Q E s := by
  have hname : (toString "min" ++ toString ".loop" : String) = "min.loop" := by decide
  refine call_function_tree F.kind_min F.plain_min F.entry_min (F.args_min2 _ _) ?_
  show wpAny _ A.in1 (Builtin.Builtins.bindParams "min" ["key", "default"] 0 ⟨[], []⟩ >>= _) _ _ s
  refine wpAny_bind (wpAny_of_eq (show Builtin.Builtins.bindParams "min" ["key", "default"] 0 ⟨[], []⟩ = pure [none, none] from rfl) ?_)
  show wpAny _ A.in1 (newTuple [a, b] >>= _) _ _ s
  refine wpAny_bind (wpAny_newObj_type ?_)
  have hT : (s.heap.push { cls := .type "tuple", data := .seq #[a, b] }).IsTuple s.heap.objs.size #[a, b] := ⟨_, Heap.get?_push_size _ rfl, rfl, 0, rfl⟩
  have k1 : ∀ c o, s.heap.get? c = some o → (s.heap.push { cls := .type "tuple", data := .seq #[a, b] }).get? c = some o := fun c o e => Heap.get?_push_of_some _ e
  have hr : ReadsAll (s.heap.push { cls := .type "tuple", data := .seq #[a, b] }) (#[a, b] : Array Value).toList (dP p :: [dP q]) (as ++ (bs ++ [])) := .cons (PySem.W.reads_keeps k1 r1) (.cons (PySem.W.reads_keeps k1 r2) .nil)
  have ha : PySem.W.AlikeAll (dP p :: [dP q]) := ⟨fun x hx y hy => by
    rcases List.mem_cons.mp hx with rfl | hx
    · rcases List.mem_cons.mp hy with rfl | hy
      · exact alike_P _ _
      · rw [List.mem_singleton.mp hy]; exact alike_P _ _
    · rw [List.mem_singleton.mp hx]
      rcases List.mem_cons.mp hy with rfl | hy
      · exact alike_P _ _
      · rw [List.mem_singleton.mp hy]; exact alike_P _ _, fun x hx => by
    rcases List.mem_cons.mp hx with rfl | hx
    · intro z; cases z
    · rw [List.mem_singleton.mp hx]; intro z; cases z⟩
  have hd : PyData.depthAll (dP p :: [dP q]) ≤ 8 := by
    have e1 : (dP p).depth = 1 := by simp [dP, dI, PyData.depth, PyData.depthAll]
    have e2 : (dP q).depth = 1 := by simp [dP, dI, PyData.depth, PyData.depthAll]
    simp [PyData.depthAll, e1, e2]
  refine wpAny_bind (PySem.W.iter_tupleW (A := A.in1) hh hT fun s₂ e W st hfp hw hk => ?_)
  refine wpAny_bind (wpAny_newObj_type ?_)
  have hSf : s₂.heap.objs.size ∉ _ := fun hm => Nat.lt_irrefl _ (hfp _ hm)
  rw [hname]
  refine wpAny_pure ⟨plainId_quiet F.plain_min_loop _, PySem.codeAny_min_loop_firstH W _ hw _ (PySem.W.cmpIn_lt (A := A.in1) hr ha (by show A.units + 1 + _ < _; omega)) s₂.heap.objs.size hSf (PySem.fresh_in hk) _ (by show 0 < 2; decide) (fun b o e => Heap.get?_push_of_some _ (hk b o e)) (W.frame 0 s₂ _ s₂.toks st (Nat.le_refl _) fun b _ o e => Heap.get?_push_of_some _ e) (Heap.get?_push_size _ rfl) fun v s' hP hm => ?_⟩
  have m := Moved.drop_new (tk := s₂.toks) hm (Nat.le_refl _)
  obtain ⟨h', tk, rfl, hk'⟩ := PySem.W.moved_old e rfl m
  have hv : v = if Plt q p then b else a := by
    have hP' : (#[a, b] : Array Value)[argBest (fun i j => PySem.W.dataLt ((dP p :: [dP q]).getD i .none) ((dP p :: [dP q]).getD j .none)) 1]? = some v := hP
    have e1 : argBest (fun i j => PySem.W.dataLt ((dP p :: [dP q]).getD i .none) ((dP p :: [dP q]).getD j .none)) 1 = if Plt q p then 1 else 0 := by
      show (if PySem.W.dataLt (dP q) (dP p) = true then 1 else 0) = _
      rw [dataLt_P]
      by_cases c : Plt q p
      · rw [decide_eq_true c, if_pos rfl, if_pos c]
      · rw [decide_eq_false c, if_neg Bool.false_ne_true, if_neg c]
    rw [e1] at hP'
    by_cases c : Plt q p
    · rw [if_pos c] at hP' ⊢
      exact (Option.some.inj hP').symm
    · rw [if_neg c] at hP' ⊢
      exact (Option.some.inj hP').symm
  rw [hv]
  exact h h' tk fun c o e => hk' c o (k1 c o e)

theorem call_max2P (hc : X.calm = true) (hu : X.A.units + 64 < cLine) : CallR X (.builtin "max") (rMax2P X.K) := by
  intro pins s σ H xs us Q I r h
  obtain ⟨x, y, p, q, rfl, hx, hy, k⟩ := h
  obtain ⟨u, w', rfl, ru, rw'⟩ := vals2 r
  obtain ⟨as, r1⟩ := Dp.reads I _ x u hx ru
  obtain ⟨bs, r2⟩ := Dp.reads I _ y w' hy rw'
  refine max2_data (I.ok.hd hc) r1 r2 hu fun h' tk kk => ⟨if Plt p q then y else x, H, I.kept kk, ?_, k⟩
  split
  · exact rw'
  · exact ru
theorem call_min2P (hc : X.calm = true) (hu : X.A.units + 64 < cLine) : CallR X (.builtin "min") (rMin2P X.K) := by
  intro pins s σ H xs us Q I r h
  obtain ⟨x, y, p, q, rfl, hx, hy, k⟩ := h
  obtain ⟨u, w', rfl, ru, rw'⟩ := vals2 r
  obtain ⟨as, r1⟩ := Dp.reads I _ x u hx ru
  obtain ⟨bs, r2⟩ := Dp.reads I _ y w' hy rw'
  refine min2_data (I.ok.hd hc) r1 r2 hu fun h' tk kk => ⟨if Plt q p then y else x, H, I.kept kk, ?_, k⟩
  split
  · exact rw'
  · exact ru
/-! ### a, b, *rest = t, t a tuple -/
/-- the last target is a star: n names ahead of it -/
def gStar (K : PySem.W.Frag) (n : Nat) (t : TGs) : TG := fun v σ H Q => ∃ a xs, v = .ref a ∧ SqT K H a xs ∧ n ≤ xs.length ∧ xs.length ≤ 16384 ∧ ∀ p, H p = none → t (xs.take n ++ [.ref p]) σ (upd H p (.lst (xs.drop n))) Q
theorem Vals.take {xs : List V} {us : List Value} (r : Vals xs us) (n : Nat) : Vals (xs.take n) (us.take n) := by
  induction r generalizing n with
  | nil => rw [List.take_nil, List.take_nil]; exact .nil
  | cons r rs ih =>
    cases n with
    | zero => exact .nil
    | succ n => exact .cons r (ih n)
theorem pg_star {es : List Expr} {k : Nat} {t : TGs} {n : Nat} {pos : Pos} (hc : X.calm = true) (h : PGs X es t)
    (hn : (assignEach es X.env).length = n + 1 := by rfl) (hst : (assignEach es X.env).findIdx? (·.1) = some n := by rfl) : PG X (.Tuple es k pos) (gStar X.K n t) := by
  refine ⟨fun pins s σ H v u Q I r hw => ?_⟩
  obtain ⟨l, xs, e1, hq, hl, h16, hw⟩ := hw
  subst e1
  cases r
  obtain ⟨its, rv, ht, hz⟩ := I.tuple hq
  have hlen : its.toArray.size = xs.length := by rw [List.size_toArray]; exact rv.length.symm
  have hlt : l ≠ s.heap.objs.size := by obtain ⟨o, ho, _⟩ := ht; exact Nat.ne_of_lt (Heap.lt_size ho)
  rw [assign_Tuple]
  refine wpAny_bind (wpAny_standAt ?_)
  unfold unpack
  rw [hn, hst]
  refine wpAny_bind (wpAny_holding ?_)
  have hh := I.ok.hd hc
  unfold unpackItems
  refine wpAny_bind ?_
  unfold notIterableAtAll
  refine wpAny_bind (wpAny_specialOf ht.typeIs slot_tuple_iter.lookup ?_)
  refine wpAny_pure ?_
  simp only [Bool.false_eq_true, if_false]
  refine wpAny_bind (wpAny_holding (iter_tuple ht ?_))
  refine wpAny_bind (wpAny_holding (draw_tuple hlt n 0 _ _ ⟨_, Heap.get?_push_size _ rfl, rfl, rfl⟩ (ht.push _) (by omega) fun h₁ hit₁ hs₁ => ?_))
  have hl₁ : IsTup h₁ l its.toArray := (ht.push _).extBut hs₁.extBut hlt
  rw [Nat.zero_add] at hit₁
  have hit₁' := hit₁
  obtain ⟨oi, hoi, _⟩ := hit₁'
  have hl₁' := hl₁
  obtain ⟨ol, hol, _⟩ := hl₁'
  rw [List.drop_zero]
  have hfl : (its.toArray.toList.take n).length = n := by rw [List.length_take, Array.length_toList]; omega
  rw [if_neg (show ¬ ((its.toArray.toList.take n).length < n) by rw [hfl]; omega)]
  refine wpAny_bind (wpAny_holding (PySem.W.kun_collect (s := { s with heap := h₁ }) (T := "tuple_iterator") (.inr (.inr (.inr rfl))) (Walks.tuple (A := X.A.in1) hh s.heap.objs.size l hlt its.toArray) (fun j u st => st.1.typeIs) (k := n) (by omega) ⟨hit₁, hl₁⟩ (Heap.lt_size hoi) (Heap.lt_size hol) (fun h₂ tk hk => ?_) (by rw [sizeLine_eq]; omega)))
  show wpAny _ _ (if (its.toArray.toList.drop n).length < n + 1 - 1 - n then _ else _) _ _ _
  rw [if_neg (by omega)]
  have hz0 : (its.toArray.toList.drop n).length - (n + 1 - 1 - n) = (its.toArray.toList.drop n).length := by omega
  show wpAny _ _ (newList ((its.toArray.toList.drop n).take ((its.toArray.toList.drop n).length - (n + 1 - 1 - n))) >>= fun d => pure (its.toArray.toList.take n ++ [d] ++ (its.toArray.toList.drop n).drop ((its.toArray.toList.drop n).length - (n + 1 - 1 - n)))) _ _ _
  rw [hz0, List.take_length, List.drop_length]
  simp only [List.append_nil]
  have he : ∀ b o, s.heap.get? b = some o → h₂.get? b = some o := fun b o e => hk b o (Nat.ne_of_lt (Heap.lt_size e)) (hs₁.extBut b o (Nat.ne_of_lt (Heap.lt_size e)) (Heap.get?_push_of_some _ e))
  have I2 : Inv X pins σ H { s with heap := h₂, toks := tk } := I.kept he
  have hdl : (xs.drop n).length ≤ sizeLine := by rw [List.length_drop, sizeLine_eq]; omega
  have rd : Vals (xs.drop n) (its.toArray.toList.drop n) := by simpa using rv.drop n
  refine wpAny_bind (wpAny_newList (wpAny_pure ?_) (by rw [← rd.length]; exact hdl))
  have I3 : Inv X pins σ (upd H h₂.objs.size (.lst (xs.drop n))) { s with heap := h₂.push { cls := .type "list", data := .seq (its.toArray.toList.drop n).toArray }, toks := tk } :=
    I2.laid (t' := tk) (fun b o e => Heap.get?_push_of_some _ e) (Nat.le_refl _) (show ObjOk X.prog X.w _ _ _ (.lst (xs.drop n)) from ⟨hdl, its.toArray.toList.drop n, 0, rd, Heap.get?_push_size _ rfl⟩)
  refine h.run pins _ σ _ (xs.take n ++ [.ref h₂.objs.size]) (its.toArray.toList.take n ++ [.ref h₂.objs.size]) Q I3 ?_ (hw _ (I2.hok.fresh (Nat.le_refl _)))
  exact (by simpa using rv.take n : Vals (xs.take n) (its.toArray.toList.take n)).append (.cons rfl .nil)

/-- o.f as a target -/
def gFld (K : PySem.W.Frag) (to : TE) (f : Str) : TG := fun v σ H Q => to σ H fun x H1 => ∃ a C dx fs, x = .ref a ∧ H1 a = some (.ins C dx fs) ∧ Cls K C ∧ NoAttr K C f ∧ fs.length < 1000 ∧ Q σ (upd H1 a (.ins C dx (putF f v fs)))
theorem pg_fld {o : Expr} {f : Str} {to : TE} {pos : Pos} (ho : PE X o to) : PG X (.Attribute o f pos) (gFld X.K to f) := by
  refine ⟨fun pins s σ H v u Q I r hw => ?_⟩
  rw [assign_Attribute]
  refine wpAny_bind (wpAny_holding (thn (ho.run pins s σ H _ I hw) fun ov s2 ⟨x, H2, I2, rx, a, C, dx, fs, ex, ea, c, n, l, q2⟩ => ?_))
  subst ex
  obtain rfl : ov = Value.ref a := rx
  refine wpAny_bind (wpAny_standAt ?_)
  refine wpAny_bind (wpAny_holding (setattr_ok I2 ea c n l r fun s3 I3 => ?_))
  exact wpAny_release ⟨σ, _, I3, q2⟩
/-! ### sorted(d.values(), reverse=True), the values places -/
/-- o.values() -/
def tVals (td : TE) : TE := fun σ H Q => td σ H fun x H1 => ∃ a kvs, x = V.ref a ∧ H1 a = some (.dK kvs) ∧ ∀ p, H1 p = none → Q (.ref p) (upd H1 p (viewO "dict_values" p a))
theorem pe_vals {e : Expr} {td : TE} {apos cpos : Pos} (he : PE X e td) (hbase : attributeBase e "values" X.env (eval e X.env) = eval e X.env := by rfl) (hline : (apos.endLine == cpos.line) = true := by rfl) : PE X (.Call (.Attribute e "values" apos) [] [] cpos) (tVals td) := by
  refine ⟨fun pins s σ H Q I h => ?_⟩
  refine wpAny_Call_method (T := "dict") (id := "dict.values") hbase rfl hline F.plainAttrs_dict F.slot_dict_values F.type_dict_values (thn (he.run pins s σ H _ I h) fun u s1 ⟨x, H1, I1, rx, d, kvs, ex, hd, q⟩ => ?_)
  subst ex
  obtain rfl : u = Value.ref d := rx
  obtain ⟨_, hs, vs, rel, hm⟩ := dk_of I1.hok hd
  refine ⟨hm.typeIs, hm.mapOf.noDict, ?_⟩
  show wpAny _ _ (callWith cpos (.builtin "dict.values") [.ref d] [] []) _ X.xe s1
  refine method_meetsIn F.slot_dict_values F.entry_dict_values rfl (PySem.evalArgs_none ⟨rfl, hm.typeIs, F.args_dict_values_1 _, _, meets_dict_values (mixKind X.prog X.w) d hs, ⟨vs, hm⟩, ?_⟩)
  exact ⟨.ref s1.heap.objs.size, _, I1.laid (t' := s1.toks) (fun b o q => Heap.get?_push_of_some _ q) (Nat.le_refl _) (viewO_ok (Heap.get?_push_size _ rfl)), rfl, q _ (I1.hok.fresh (Nat.le_refl _))⟩
end
theorem each_of {α β : Type} {R : α → β → Prop} : ∀ {as : List α} {bs : List β}, as.length = bs.length → (∀ (i : Nat) a b, as[i]? = some a → bs[i]? = some b → R a b) → PySem.W.EachIs R as bs
  | [], [], _, _ => .nil
  | a :: as, b :: bs, hl, h => .cons (h 0 a b rfl rfl) (each_of (by simpa using hl) fun i x y e1 e2 => h (i + 1) x y (by simpa using e1) (by simpa using e2))
  | [], _ :: _, hl, _ => by simp at hl
  | _ :: _, [], hl, _ => by simp at hl
theorem dataLe_P : PySem.W.dataLe true dP = fun a b => decide (Ple b a) := by
  funext a b
  rw [PySem.W.dataLe_eq]
  show (!PySem.W.dataLt (dP a) (dP b)) = _
  rw [dataLt_P]
  by_cases c : Plt a b
  · rw [decide_eq_true c]; exact (decide_eq_false fun z => not_ple.mpr c z).symm
  · rw [decide_eq_false c]; exact (decide_eq_true (not_plt.mp c)).symm
theorem readsA_P {h : Heap} {a b : Nat} {us : List Value} {as : List Addr} (r : ReadsAll h us [dI a, dI b] as) : as = [] := by
  cases r with
  | cons r1 r2 =>
    cases r1
    cases r2 with
    | cons r3 r4 =>
      cases r3
      cases r4
      rfl
theorem reads_P {h : Heap} {v : Value} {p : Place} {as : List Addr} (r : Reads h v (dP p) as) : as = [] := by
  cases r with
  | tuple h1 h2 h3 h4 => exact readsA_P h4
theorem dpA_at {K : PySem.W.Frag} {H : Hp} {ds : List PyData} {vs : List V} {i : Nat} {v : V} {d : PyData} (h : DpAll K H vs ds) (e1 : vs[i]? = some v) (e2 : ds[i]? = some d) : Dp K H v d := by
  obtain ⟨d', h1, h2⟩ := dpA_get' h e1
  rw [e2] at h1
  rw [Option.some.inj h1]
  exact h2
theorem each_back {K : PySem.W.Frag} {H : Hp} : ∀ {us : List Value} {ps : List Place}, PySem.W.EachIs (fun u p => ∃ x, RelV x u ∧ Dp K H x (dP p)) us ps → ∃ vs, Vals vs us ∧ DpAll K H vs (ps.map dP)
  | _, _, .nil => ⟨[], .nil, .nil⟩
  | _, _, .cons ⟨x, h1, h2⟩ t => by
    obtain ⟨vs, k1, k2⟩ := each_back t
    exact ⟨x :: vs, .cons h1 k1, .cons h2 k2⟩
section
variable {X : Cx}
def rSortV (K : PySem.W.Frag) : List V → List V → Hp → VK → Prop := fun xs zs H Q => ∃ (p a : Addr) (kvs : List (Key × V)) (ps : List Place), xs = [V.ref p] ∧ zs = [.bl true] ∧ H p = some (viewO "dict_values" p a) ∧ H a = some (.dK kvs) ∧ DpAll K H (kvs.map (·.2)) (ps.map dP) ∧ ps.length < 1000 ∧
  ∀ p vs, H p = none → DpAll K H vs ((ps.mergeSort fun a b => decide (Ple b a)).map dP) → Q (.ref p) (upd H p (.lst vs))
theorem cr_sortV (hc : X.calm = true) (hu : X.A.units + 64 < cLine) : CallRK X (.builtin "sorted") [Str.ofString "reverse"] (rSortV X.K) := by
  intro pins s σ H xs zs us ws Q I r rz h
  obtain ⟨p, a, kvs, ps, rfl, rfl, hp, ha, hd, h1000, q⟩ := h
  obtain rfl := Vals.ref1 r
  obtain ⟨w1, rfl, e1⟩ := vals1 rz
  obtain rfl : w1 = Value.bool true := e1
  have hv : s.heap.get? p = some (DSub.viewOb "dict_values" a) := (show ObjOk X.prog X.w H s.heap p (viewO "dict_values" p a) from I.hok p _ hp).1
  obtain ⟨z, lo, vs, rel, dd⟩ := dk_of I.hok ha
  obtain ⟨ep, hat⟩ := dd.dictAt
  have hl : vs.length = ps.length := by
    have e1 := dpA_len hd
    rw [List.length_map, List.length_map] at e1
    rw [← e1]
    exact (KV.length rel).symm
  show wpAny (model X.prog X.w) X.A (call (.builtin "sorted") [.ref p] [(Str.ofString "reverse", .bool true)]) (EP X pins σ Q) X.xe s
  refine PyProof.Rows.kmk_tree PyProof.Rows.kind_sorted PyProof.Rows.plain_sorted PyProof.Rows.entry_sorted (PyProof.Rows.args_sorted_rev _ _) ?_
  unfold Builtin.«sorted»
  refine wpAny_bind (m := checkCount "sorted" 1 1 _) (wpAny_pure ?_)
  refine wpAny_bind (PySem.W.kdu_collect (A := X.A.in1) (PySem.W.kdl_values (r := p) (d := a) (knd := mixKind X.prog X.w) (kvs := vs) (ep := ep)) (I.ok.hd hc) ⟨⟨_, hv, rfl, rfl⟩, hat⟩ (by rw [hl, sizeLine_eq]; omega) fun h' tk acc hk hacc => ?_)
  have hal : acc.toList.length = ps.length := by rw [Array.length_toList, hacc.1, hl]
  have I1 : Inv X pins σ H { s with heap := h', toks := tk } := I.kept hk
  have hR : PySem.W.EachIs (fun u p => ∃ x, RelV x u ∧ Dp X.K H x (dP p)) acc.toList ps := each_of hal fun i u p e1 e2 => by
    obtain ⟨k, e3⟩ := hacc.2 i u (by rw [← Array.getElem?_toList]; exact e1)
    obtain ⟨x, e4, e5⟩ := KV.at' rel e3
    refine ⟨x, e5, dpA_at hd (by rw [List.getElem?_map, e4] <;> rfl) (by rw [List.getElem?_map, e2] <;> rfl)⟩
  refine wpAny_bind (wpAny_newList ?_ (by rw [hal, sizeLine_eq]; omega))
  have hoL : (h'.push (seqObj "list" acc.toList.toArray 0)).get? h'.objs.size = some (seqObj "list" acc.toList.toArray 0) := Heap.get?_push_size _ rfl
  show wpAny _ _ _ _ _ { s with heap := h'.push (seqObj "list" acc.toList.toArray 0), toks := tk }
  have e2 : PySem.W.EachIs (fun v b => ∃ as, Reads (h'.push (seqObj "list" acc.toList.toArray 0)) v (dP b) as ∧ h'.objs.size ∉ as) acc.toList ps := hR.mono fun u b ⟨x, r1, r2⟩ => by
    obtain ⟨as, r3⟩ := Dp.reads I1 _ x u r2 r1
    have r4 : Reads (h'.push (seqObj "list" acc.toList.toArray 0)) u (dP b) as := PyProof.Rows.Reads.keeps (fun c o e => Heap.get?_push_of_some _ e) r3
    refine ⟨as, r4, ?_⟩
    rw [reads_P r4]
    exact List.not_mem_nil
  refine wpAny_bind (wpAny_holding (PySem.W.list_sort_rev_data (s := { s with heap := h'.push (seqObj "list" acc.toList.toArray 0), toks := tk }) (enc := dP) hoL hR e2 (PySem.W.AllAlike.of alike_P) (PySem.W.Sortable.tuples fun b => ⟨_, _, rfl⟩) (by rw [sizeLine_eq]; omega)
    (fun b _ => by have := depth_P b; show X.A.units + 1 + 1 + _ < _; omega) fun out hol hout => ?_))
  rw [dataLe_P] at hout
  obtain ⟨vs', g1, g2⟩ := each_back hout
  obtain ⟨e', he'⟩ := PyProof.Rows.sortedHeap_at (vs := acc.toList) (out := (List.toArray out)) hoL
  have hlen : vs'.length ≤ sizeLine := by
    rw [g1.length, hol, sizeLine_eq]
    omega
  refine wpAny_pure ⟨.ref h'.objs.size, upd H h'.objs.size (.lst vs'), I1.laid (t' := tk) (fun b u e => ?_) (Nat.le_refl _)
    (show ObjOk X.prog X.w _ _ _ (.lst vs') from ⟨hlen, out, e', g1, he'⟩), rfl, q _ vs' (I1.hok.fresh (Nat.le_refl _)) g2⟩
  have hb : b < h'.objs.size := Heap.lt_size e
  rw [PyProof.Rows.sortedHeap_old (Nat.ne_of_lt hb) (by rw [size_push']; exact Nat.lt_succ_of_lt hb)]
  exact Heap.get?_push_of_some _ e
end
end Wn

set_option Elab.async false
set_option linter.all false
set_option maxRecDepth 100000
set_option maxHeartbeats 4000000
/-! entries and states. -/
namespace Wn
open PySem PySem.Spec PyProof.Rows L2
open Zab hiding World Place Row
theorem u1 {k : Nat} {A : Around} (r : Room k A) : A.units + 1 < cLine := by have := r.units; omega
section
variable {σ : L2.St} {H : Hp} {te td : TE} {ta : TA} {t : TT}
theorem c_cons {k : List V → Hp → Prop} (h : te σ H fun v H1 => ta σ H1 fun vs H2 => k (v :: vs) H2) : tCons te ta σ H k := h
theorem c_nil {k : List V → Hp → Prop} (h : k [] H) : tNil σ H k := h
theorem c_c {v : V} {k : VK} (h : k v H) : tC v σ H k := h
theorem c_var {i : Nat} {v : V} {k : VK} (h : k v H) (e : σ[i]? = some (some v) := by rfl) : tVar i σ H k := ⟨v, e, h⟩
theorem c_tup {k : VK} (h : ta σ H fun xs H1 => xs.length ≤ sizeLine ∧ ∀ p, H1 p = none → k (.ref p) (upd H1 p (.tup xs))) : tTup ta σ H k := h
theorem c_lst {k : VK} (h : ta σ H fun xs H1 => xs.length ≤ sizeLine ∧ ∀ p, H1 p = none → k (.ref p) (upd H1 p (.lst xs))) : tLst ta σ H k := h
theorem c_ret {D : Ends} (h : te σ H D.rt) : tRet te D σ H := h
theorem c_d {K : PySem.W.Frag} {d : PyData} {k : VK} (h : EvD K te σ H d) (q : ∀ v H2, Ex H H2 → Dp K H2 v d → k v H2) : te σ H k := h H (Evl.Ex.refl _) k q
theorem c_cb {r : List V → Hp → VK → Prop} {k : VK} (h : ta σ H fun xs H1 => r xs H1 k) : tCB r ta σ H k := h
theorem c_yes {k : VK} {N : Hp → Prop} (h : te σ H k) : tYes σ H (fun b H3 => if b = true then te σ H3 k else N H3) := by
  show (if true = true then te σ H k else N H)
  rw [if_pos rfl]
  exact h
theorem c_if {b : Bool} {ta tb : TE} {k : VK} (h : Evl.EvT t σ H b) (h1 : b = true → ∀ H1, Ex H H1 → ta σ H1 k) (h2 : b = false → ∀ H1, Ex H H1 → tb σ H1 k) : tIf t ta tb σ H k := h H (Evl.Ex.refl H) _ fun H1 e => by
  cases b with
  | true => exact h1 rfl H1 e
  | false => exact h2 rfl H1 e
theorem c_dput {tv ty : TE} {tz : TS} {D : Ends} (h : tv σ H fun v H1 => td σ H1 fun x H2 => ty σ H2 fun y H3 => ∃ a H4, x = .ref a ∧ DPut H3 a y v H4 ∧ tz D σ H4) : tSeq (sDPut td ty tv) tz D σ H := h
theorem c_call {sp : Sp} {dvs : List V} {E : XK} {k : VK} (h : ta σ H fun vs H1 => sp (vs ++ dvs) H1 k E) : tCall sp dvs E ta σ H k := h
theorem c_asg {g : TG} {tz : TS} {D : Ends} (h : te σ H fun v H1 => g v σ H1 fun σ' H' => tz D σ' H') : tSeq (tAsg te g) tz D σ H := h
theorem et_n (h : Evl.EvT t σ H true) : Evl.EvT (tNot t) σ H false := Evl.et_not h
theorem et_nn (h : Evl.EvT t σ H false) : Evl.EvT (tNot t) σ H true := Evl.et_not h
end
section
variable {P : Program} {w : World} {K : PySem.W.Frag} {mg : Str → Option Value} {base : Heap}
abbrev dBring : PyData := .tuple [.str "bring"]
abbrev spPlain (K : PySem.W.Frag) : Sp := spF K (fun _ : Unit => [dBring]) (fun _ => True) (fun _ => .bool false)
theorem sc_is_plain : FnScope ["thing", "word", "path", "rest"] ["thing"] (defScope s_is_plain) := ⟨rfl, rfl, rfl, by decide +kernel, rfl, by decide +kernel, by decide +kernel⟩
theorem ok_is_plain (T : TX w K mg) : Cal P w K mg base 1 (He.ga K "is_plain") ["thing"] (spPlain K) [] := by
  refine cal_F T 4 (d := d_is_plain) rfl rfl rfl sc_is_plain (fun _ => rfl) (fun _ _ _ _ _ _ us hl => match us, hl with | [_], _ => rfl) fun cdv A outer s H vs E n hr _ hv => ?_
  obtain ⟨v, rfl, hd⟩ := dpA1 hv
  refine ⟨_, (pss_cons (ps_if (PW.pt (pw_or (pt_not (pt_val (pe_isi (by rfl) T.b_isinstance (pv 0) (by rfl) T.b_tuple bt_tuple))) (pw_or (pt_cmpR op_lt (pe_callB call_len (by rfl) T.b_len PySem.boot_len (pa_cons (pv 0) pa_nil)) pe_int (nomark _)) (pw_or1 (pt_not (pt_val (pe_isi (by rfl) T.b_isinstance (pe_ix ix_tup (pv 0) pe_int (fun _ _ => rfl)) (by rfl) T.b_str bt_str))))))) (pss_one (ps_ret pe_bl)) pss_nil)
    pss_never), fun D q => ?_⟩
  exact q_ifT (Evl.et_is (Evl.et_or (Evl.et_not (et_b (evd_isi (evd_var hd) k_tt))) fun _ => Evl.et_or (a := true) (b := true) (et_t (evd_op (evd_lenT (evd_var hd)) evd_int (rd_I0 fun H => .bl _))) fun z => by cases z) rfl)
    fun H1 e1 => s_retD (evd_bl (i := false)) fun v H2 e2 d => q v H2 (e1.trans e2) d
abbrev spDeed (K : PySem.W.Frag) : Sp := spF K (fun _ : Unit => [dBring]) (fun _ => True) (fun _ => .bool true)
theorem sc_is_deed : FnScope ["thing", "one"] ["thing"] (defScope s_is_deed) := ⟨rfl, rfl, rfl, by decide +kernel, rfl, by decide +kernel, by decide +kernel⟩
theorem ok_is_deed (T : TX w K mg) : Cal P w K mg base 2 (He.ga K "is_deed") ["thing"] (spDeed K) [] := by
  have C_is_plain := ok_is_plain (P := P) (base := base) T
  refine cal_F T 5 (d := d_is_deed) rfl rfl rfl sc_is_deed (fun _ => rfl) (fun _ _ _ _ _ _ us hl => match us, hl with | [_], _ => rfl) fun cdv A outer s H vs E n hr _ hv => ?_
  obtain ⟨v, rfl, hd⟩ := dpA1 hv
  refine ⟨_, (pss_cons (ps_if (pt_val (pe_k C_is_plain (hr.mono (by decide)) (by rfl) T.g_is_plain (pa_cons (pv 0) pa_nil))) pss_never pss_nil)
    (pss_cons (ps_if (PW.pt (pw_or (pt_not (pt_val (pe_isi (by rfl) T.b_isinstance (pv 0) (by rfl) T.b_tuple bt_tuple))) (pw_or (pt_cmpR (op_eqD (hr.units)) (pv 0) (pe_tup pa_nil) (nomark _)) (pw_or1 (pt_not (pt_val (pe_isi (by rfl) T.b_isinstance (pe_ix ix_tup (pv 0) pe_int (fun _ _ => rfl)) (by rfl) T.b_str bt_str))))))) (pss_one (ps_ret pe_bl)) pss_nil)
    (pss_cons (ps_if (pt_cmpR op_in_seq (pe_ix ix_tup (pv 0) pe_int (fun _ _ => rfl)) (pe_tup (pa_cons pe_str (pa_cons pe_str pa_nil))) (by rfl)) (pss_one (ps_ret (pe_cmpR op_eq (pe_callB call_len (by rfl) T.b_len PySem.boot_len (pa_cons (pv 0) pa_nil)) pe_int (nomark _)))) pss_nil)
    pss_never))), fun D q => ?_⟩
  refine q_ifF (et_b (evd_F () trivial (eds_one (evd_var hd)))) fun H1 e1 => ?_
  have hd := dp_ex e1 hd
  refine q_ifF (Evl.et_is (Evl.et_or (Evl.et_not (et_b (evd_isi (evd_var hd) k_tt))) fun _ => Evl.et_or (et_t (evd_op (evd_var hd) (evd_tup eds_nil) (rd_eqD (j := 1) (k := 1) (ShpA.cons (shp_str 0 (by decide +kernel)) (.nil 0)).tup (ShpA.nil 0).tup))) fun _ =>
    Evl.et_not (et_b (evd_isi (evd_op (evd_var hd) evd_int (rd_ixT rfl)) k_ss))) (by decide +kernel)) fun H2 e2 => ?_
  have hd := dp_ex e2 hd
  refine s_ifT (et_t (evd_op (evd_op (evd_var hd) evd_int (rd_ixT rfl)) (evd_tup (eds_cons evd_str (eds_cons evd_str eds_nil))) (rd_inS (ss := ["close", "bring"])))) fun H3 e3 => ?_
  have hd := dp_ex e3 hd
  exact s_retD (evd_op (evd_lenT (evd_var hd)) evd_int rd_eqI) fun v H4 e4 d => q v H4 (((e1.trans e2).trans e3).trans e4) d
abbrev spEntry (K : PySem.W.Frag) : Sp := spF K (fun e : Ent => [dE e]) (fun e => 1 ≤ e.2) (fun _ => .bool true)
theorem sc_is_entry : FnScope ["thing"] ["thing"] (defScope s_is_entry) := ⟨rfl, rfl, rfl, by decide +kernel, rfl, by decide +kernel, by decide +kernel⟩
theorem word_who (b : Bool) : wordOk (whoS b) = true := by cases b <;> decide +kernel
theorem ok_is_entry (T : TX w K mg) : Cal P w K mg base 3 (He.ga K "is_entry") ["thing"] (spEntry K) [] := by
  have C_is_deed := ok_is_deed (P := P) (base := base) T
  have C_is_whole := ok_is_whole (P := P) (base := base) T
  have C_is_word := ok_is_word (P := P) (base := base) T
  refine cal_F T 6 (d := d_is_entry) rfl rfl rfl sc_is_entry (fun _ => rfl) (fun _ _ _ _ _ _ us hl => match us, hl with | [_], _ => rfl) fun cdv A outer s H vs E n hr h1 hv => ?_
  obtain ⟨v, rfl, hd⟩ := dpA1 hv
  refine ⟨_, (pss_cons (ps_if (PW.pt (pw_or (pt_not (pt_val (pe_isi (by rfl) T.b_isinstance (pv 0) (by rfl) T.b_tuple bt_tuple))) (pw_or (pt_cmpR op_lt (pe_callB call_len (by rfl) T.b_len PySem.boot_len (pa_cons (pv 0) pa_nil)) pe_int (nomark _)) (pw_or (pt_not (pt_val (pe_isi (by rfl) T.b_isinstance (pe_ix ix_tup (pv 0) pe_int (fun _ _ => rfl)) (by rfl) T.b_str bt_str))) (pw_or1 (pt_not (pt_val (pe_k C_is_word (hr.mono (by decide)) (by rfl) T.g_is_word (pa_cons (pe_ix ix_tup (pv 0) pe_int (fun _ _ => rfl)) pa_nil))))))))) (pss_one (ps_ret pe_bl)) pss_nil)
    (pss_cons (ps_if (pt_cmpR op_eq (pe_ix ix_tup (pv 0) pe_int (fun _ _ => rfl)) pe_str (nomark _)) (pss_one (ps_ret (pe_cmpR op_eq (pe_callB call_len (by rfl) T.b_len PySem.boot_len (pa_cons (pv 0) pa_nil)) pe_int (nomark _)))) pss_nil)
    (pss_one (ps_ret (pe_and (pe_cmpR op_eq (pe_ix ix_tup (pv 0) pe_int (fun _ _ => rfl)) pe_str (nomark _)) (pe_and (pe_cmpR op_eq (pe_callB call_len (by rfl) T.b_len PySem.boot_len (pa_cons (pv 0) pa_nil)) pe_int (nomark _)) (pe_and (pe_k C_is_whole (hr.mono (by decide)) (by rfl) T.g_is_whole (pa_cons (pe_ix ix_tup (pv 0) pe_int (fun _ _ => rfl)) pa_nil)) (pe_and (pe_cmpR op_ge (pe_ix ix_tup (pv 0) pe_int (fun _ _ => rfl)) pe_int (nomark _)) (pe_one (pe_k C_is_deed (hr.mono (by decide)) (by rfl) T.g_is_deed (pa_cons (pe_ix ix_tup (pv 0) pe_int (fun _ _ => rfl)) pa_nil))))))))))), fun D q => ?_⟩
  refine q_ifF (Evl.et_is (Evl.et_or (Evl.et_not (et_b (evd_isi (evd_var hd) k_tt))) fun _ => Evl.et_or (et_t (evd_op (evd_lenT (evd_var hd)) evd_int (rd_I0 (z := .bool false) fun H => .bl _))) fun _ => Evl.et_or (Evl.et_not (et_b (evd_isi (evd_op (evd_var hd) evd_int (rd_ixT rfl)) k_ss))) fun _ =>
    Evl.et_not (et_b (evd_F (whoS n.1) (word_who n.1) (eds_one (evd_op (evd_var hd) evd_int (rd_ixT rfl)))))) rfl) fun H1 e1 => ?_
  have hd := dp_ex e1 hd
  refine q_ifF (et_t (evd_op (evd_op (evd_var hd) evd_int (rd_ixT rfl)) evd_str (rd_eqS (a := "ask") (b := "end")))) fun H2 e2 => ?_
  have hd := dp_ex e2 hd
  refine s_retD ((evd_and (evd_op (evd_op (evd_var hd) evd_int (rd_ixT rfl)) evd_str (rd_eqS (a := "ask") (b := "ask"))) fun _ => evd_and (evd_op (evd_lenT (evd_var hd)) evd_int rd_eqI) fun _ => evd_and (evd_F (n.2 : Int) trivial (eds_one (evd_op (evd_var hd) evd_int (rd_ixT rfl)))) fun _ =>
    evd_and (evd_op (evd_op (evd_var hd) evd_int (rd_ixT (d := dI n.2) rfl)) evd_int (rd_I0 (z := .bool (decide ((1 : Int) ≤ (n.2 : Int)))) fun H => .bl _)) fun _ => evd_F () trivial (eds_one (evd_op (evd_var hd) evd_int (rd_ixT rfl)))).to ?_) fun v H4 e4 d => q v H4 ((e1.trans e2).trans e4) d
  rw [decide_eq_true (show (1 : Int) ≤ (n.2 : Int) by omega)]
  rfl
/-! ### states -/
def spNodes : Sp := fun vs H Q _ => vs = [] ∧ ∀ p H' kn, H p = none → Ex H H' → H' p = some (.dK kn) → kn.length ≤ 100 → Q (.ref p) H'
theorem sc_first_nodes : FnScope [] [] (defScope s_first_nodes) := ⟨rfl, rfl, rfl, by decide +kernel, rfl, by decide +kernel, by decide +kernel⟩
theorem ok_first_nodes (T : TX w K mg) : Cal P w K mg base 1 (He.ga K "first_nodes") [] spNodes [] := by
  refine cal_mk T 3 (d := d_first_nodes) rfl rfl rfl sc_first_nodes (fun vs H Q E h => h.1 ▸ rfl) (fun _ _ _ _ _ _ us hl => match us, hl with | [], _ => rfl) fun cdv A outer s H vs Q E hr h => ?_
  obtain ⟨rfl, q⟩ := h
  refine ⟨_, (pss_one (ps_ret (pe_disp (pps_cons (pe_gS (by rfl) T.v_ROOT) (pe_tup (pa_cons pe_str (pa_cons pe_int (pa_cons pe_int (pa_cons pe_non pa_nil))))) pps_nil) rfl rfl (by intro z; cases z) (by decide)))), ?_⟩
  intro p hp
  have e0 := Evl.Ex.new (o := HO.dK []) hp
  simp only [tPairs]
  refine evd_str (K := K) (i := ("/" : Str)) _ (Evl.Ex.refl _) _ fun v H1 e1 d1 => ?_
  refine (evd_tup (K := K) (eds_cons evd_str (eds_cons evd_int (eds_cons evd_int (eds_cons evd_non eds_nil))))) _ (Evl.Ex.refl _) _ fun v2 H2 e2 d2 => ?_
  rw [dp_str d1]
  refine ⟨e2 _ _ (e1 _ _ upd_same), [(Sum.inr "/", v2)], rfl, by show 1 ≤ 15; decide, ?_⟩
  refine q p _ _ hp (Evl.Ex.mut ((e0.trans e1).trans e2) hp) upd_same (by show 1 ≤ 100; decide)
def spState0 (K : PySem.W.Frag) : Sp := fun vs H Q _ => vs = [] ∧ ∀ a n s H', Ex H H' → StNew K H H' a n s → Q (.ref a) H'
theorem sc_first_state : FnScope [] [] (defScope s_first_state) := ⟨rfl, rfl, rfl, by decide +kernel, rfl, by decide +kernel, by decide +kernel⟩
theorem ok_first_state (T : TX w K mg) : Cal P w K mg base 2 (He.ga K "first_state") [] (spState0 K) [] := by
  have C_first_nodes := ok_first_nodes (P := P) (base := base) T
  refine cal_mk T 7 (d := d_first_state) rfl rfl rfl sc_first_state (fun vs H Q E h => h.1 ▸ rfl) (fun _ _ _ _ _ _ us hl => match us, hl with | [], _ => rfl) fun cdv A outer s H vs Q E hr h => ?_
  obtain ⟨rfl, q⟩ := h
  refine ⟨_, (pss_one (ps_ret (pe_tup (pa_cons (pe_k0 C_first_nodes (hr.mono (by decide)) (by rfl) T.g_first_nodes) (pa_cons pe_dnewK pa_nil))))), ?_⟩
  refine ⟨rfl, fun p H' kn hp e hk hl => ?_⟩
  intro p2 hp2
  refine ⟨Nat.le_trans (show 2 ≤ 1000 by decide) (by decide), fun a ha => ?_⟩
  have e2 := Evl.Ex.new (o := HO.dK []) hp2
  have e3 := Evl.Ex.new (o := HO.tup [.ref p, .ref p2]) ha
  exact q a p p2 _ ((e.trans e2).trans e3) ⟨SqT.of upd_same, ⟨kn, e3 _ _ (e2 _ _ hk), hl⟩, ⟨[], e3 _ _ upd_same, SOk.nil⟩, hp, Evl.fresh_back e hp2, fun z => by rw [z] at hk; rw [hk] at hp2; cases hp2⟩

/-- done_deed: no session stands open -/
def spDoneDeed (K : PySem.W.Frag) : Sp := fun vs H Q _ => ∃ p v b, vs = [.ref p, .non, v, .str (whoS b)] ∧ Dp K H v dBring ∧ ∀ r a l H', Ex H H' → SqT K H' r [.ref p, .non, a, l] → Dp K H' a (.tuple [.str "no", .str "closed"]) → Q (.ref r) H'
theorem sc_done_deed : FnScope ["nodes", "limit", "deed", "asker", "word", "found", "events", "answer"] ["nodes", "limit", "deed", "asker"] (defScope s_done_deed) := ⟨rfl, rfl, rfl, by decide +kernel, rfl, by decide +kernel, by decide +kernel⟩
theorem ok_done_deed (T : TX w K mg) : Cal P w K mg base 1 (He.ga K "done_deed") ["nodes", "limit", "deed", "asker"] (spDoneDeed K) [] := by
  refine cal_mk T 8 (d := d_done_deed) rfl rfl rfl sc_done_deed (fun vs H Q E h => by obtain ⟨p, v, b, h, _⟩ := h; rw [h]; rfl) (fun _ _ _ _ _ _ us hl => match us, hl with | [_, _, _, _], _ => rfl) fun cdv A outer s H vs Q E hr h => ?_
  obtain ⟨p, v, b, rfl, hd, q⟩ := h
  refine ⟨_, (pss_cons (ps_asg (pe_ix ix_tup (pv 2) pe_int (fun _ _ => rfl)) (pg_name (i := 4) sc_done_deed.nd rfl (Or.inl rfl)))
    (pss_cons (ps_if (pt_cmpR op_eq (pv 4) pe_str (nomark _)) pss_never pss_nil)
    (pss_cons (ps_if (pt_cmpR op_isN (pv 1) pe_non (nomark _)) (pss_one (ps_ret (pe_tup (pa_cons (pv 0) (pa_cons pe_non (pa_cons (pe_tup (pa_cons pe_str (pa_cons pe_str pa_nil))) (pa_cons (pe_lst pa_nil) pa_nil))))))) pss_nil)
    pss_never))), ?_⟩
  refine q_asgD (evd_op (evd_var hd) evd_int (rd_ixT rfl)) fun w H1 e1 d1 => ?_
  rw [dp_str d1]
  refine q_ifF (et_t (K := K) (evd_op (evd_var (i := 4) (.str _)) evd_str (rd_eqS (a := "bring") (b := "open")))) fun H2 e2 => ?_
  refine q_ifT (Evl.et_test (Evl.ev_op (x := .non) (y := .non) (z := .bl true) (ev_var (i := 1)) Evl.ev_c fun H1 _ Q k => ⟨rfl, k H1 (Evl.Ex.refl _)⟩)) fun H3 e3 => ?_
  refine c_ret (c_tup (c_cons (c_var (c_cons (c_c (c_cons (c_d (K := K) (evd_tup (eds_cons (evd_str (i := "no")) (eds_cons (evd_str (i := "closed")) eds_nil))) fun a H4 e4 d4 => c_cons (c_lst (c_nil ⟨Evl.sz_of (Nat.zero_le _), fun l hl => c_nil ⟨Evl.sz_of (show 4 ≤ 100000 by decide), fun r hr => ?_⟩⟩)))))))))
  have e5 := Evl.Ex.new (o := HO.lst []) hl
  have e6 := Evl.Ex.new (o := HO.tup [.ref p, .non, a, .ref l]) hr
  exact q r a (.ref l) _ ((((((e1.trans e2).trans e3).trans e4).trans e5)).trans e6) (SqT.of upd_same) (dp_ex (e5.trans e6) d4)
/-! ### done -/
structure CalK (P : Program) (w : World) (K : PySem.W.Frag) (mg : Str → Option Value) (base : Heap) (k : Nat) (f : Addr) (ps : List Str) (n : Nat) (ks : List Str) (sp : Sp) : Prop where
  ex : ∃ fd, FnOk P w K mg base CX0 k f fd ps sp ∧ KBn K fd ps n ks (fun us ws => us ++ ws) (fun vs zs => vs ++ zs)
  kp : PySem.W.keepIn K (.ref f) = true
theorem cal_mkK (T : TX w K mg) (i : Nat) {d : He.DefD} {N ps : List Str} {n : Nat} {ks : List Str} {k : Nat} {sp : Sp} (hfn : fn[i]? = some d) (hd0 : d.dfl = []) (hk0 : d.kwd = []) (S : FnScope N ps d.scope) (len : ∀ vs H Q E, sp vs H Q E → vs.length = ps.length)
    (hb : ∀ (kV doc pm : Value) (an : Option Addr) (cdv ct : Value) (us ws : List Value), us.length = n → ws.length = ks.length → bindArgs (PySem.W.fnOf d.name d.qual d.params d.body d.scope .none kV doc pm an cdv ct) ⟨us, ks.zip ws⟩ = pure (ps.zip (us ++ ws)))
    (hbody : ∀ (cdv : Value) (A : Around) (outer : List Env) (s : Shared) (H : Hp) (vs : List V) (Q : VK) (E : XK), Room k (A.deeper (envOfC d.qual d.scope s.heap.objs.size (He.fAd K d.at_) cdv)) → sp vs H Q E →
      ∃ t, PSs (BX P w K mg base N d.qual d.scope (He.fAd K d.at_) cdv A outer s H E) d.body t ∧ t { nx := fun _ H' => Q .non H', rt := Q } (start N vs) H) : CalK P w K mg base (k + 1) (He.fAd K d.at_) ps n ks sp := by
  obtain ⟨fd, F⟩ := T.says.d.def_ i hfn
  have e1 : d.dvs K = [] := by unfold He.DefD.dvs; rw [hd0]; rfl
  have e2 : d.kws K = [] := by unfold He.DefD.kws; rw [hk0]; rfl
  rw [e1, e2] at F
  refine ⟨⟨fd, F.ok S len fun cdv A outer s H vs Q E hr h => ?_, ?_⟩, F.kp⟩
  · obtain ⟨t, h1, h2⟩ := hbody cdv A outer s H vs Q E hr h
    exact ⟨t, h1.nox, h2⟩
  · obtain ⟨oc, od, dV, kV, doc, pm, an, cdv, ct, osl, rfl, lk, hcd, hD, hK⟩ := F.ex
    rcases hD with ⟨_, rfl⟩ | ⟨e, _⟩
    · exact ⟨fun s us ws _ l1 l2 => .of_eq (hb kV doc pm an cdv ct us ws l1 l2), fun r1 r2 => r1.append r2⟩
    · exact absurd rfl e
theorem pe_kN {X : Cx} {k n : Nat} {f : Addr} {ps ks : List Str} {sp : Sp} {x : Str} {p pos : Pos} {e : Expr} {es : List Expr} {kws : List Keyword} {t tk : TA} (c : CalK X.prog X.w X.K X.mg X.base k f ps n ks sp) (hr : Room k X.A) (hg : Gl X x) (hm : X.mg x = some (.ref f)) (ha : PA X (e :: es) t) (hkw : PK X kws tk)
    (hall : (backToKw pos (keywordEach kws X.env)).all (·.1.isSome) = true := by rfl) (hks : (backToKw pos (keywordEach kws X.env)).filterMap (·.1) = ks := by rfl)
    (hdb : (x == ("__debug__" : Str)) = false := by decide) (he : starEach (e :: es) X.env = (false, eval e X.env) :: starEach es X.env := by rfl)
    (hpl : ((backTo pos (starEach (e :: es) X.env)).any (·.1) || (backToKw pos (keywordEach kws X.env)).any (·.1.isNone)) = false := by rfl) : PE X (.Call (.Name x p) (e :: es) kws pos) (tCallN n ks.length sp (fun vs zs => vs ++ zs) E0 t tk) := by
  obtain ⟨fd, F, hb⟩ := c.ex
  exact pe_callN F hr hg hm c.kp hb pass0 ha hkw hall hks hdb he hpl
end
end Wn

set_option Elab.async false
set_option linter.all false
set_option maxRecDepth 100000
set_option maxHeartbeats 4000000
/-! entries and states. -/
namespace Wn
open PySem PySem.Spec PyProof.Rows L2
open Zab hiding World Place Row
section
variable {P : Program} {w : World} {K : PySem.W.Frag} {mg : Str → Option Value} {base : Heap}
/-- done(state, entry, place=p): a new state, two more -/
def spDone (K : PySem.W.Frag) : Sp := fun vs H Q _ => ∃ a n s v1 v2 kn ks, ∃ ent : Ent, ∃ p : Place, vs = [.ref a, v1, v2] ∧ SqT K H a [.ref n, .ref s] ∧ H n = some (.dK kn) ∧ kn.length ≤ 100 ∧ H s = some (.dK ks) ∧ SOk K H ks ∧ 1 ≤ ent.2 ∧ Dp K H v1 (dE ent) ∧ Dp K H v2 (dP p) ∧
  ∀ r a' n' s' x y H', Ex H H' → StNew K H H' a' n' s' → SqT K H' r [.ref a', x, y] → Q (.ref r) H'
theorem sc_done : FnScope ["state", "entry", "place", "nodes", "sessions", "one", "asker", "stamp", "deed", "limit", "last", "elder", "where", "found", "answer", "events"] ["state", "entry", "place"] (defScope s_done) := ⟨rfl, rfl, rfl, by decide +kernel, rfl, by decide +kernel, by decide +kernel⟩
theorem ok_done (T : TX w K mg) : CalK P w K mg base 4 (He.ga K "done_states") ["state", "entry", "place"] 2 ["place"] (spDone K) := by
  have C_is_entry := ok_is_entry (P := P) (base := base) T
  have C_done_deed := ok_done_deed (P := P) (base := base) T
  refine cal_mkK T 9 (d := d_done) rfl rfl rfl sc_done (fun vs H Q E h => by obtain ⟨a, n, s, v1, v2, kn, ks, ent, p, h, _⟩ := h; rw [h]; rfl) (fun _ _ _ _ _ _ us ws hl hw => match us, ws, hl, hw with | [_, _], [_], _, _ => rfl) fun cdv A outer s H vs Q E hr h => ?_
  obtain ⟨a, n, s, v1, v2, kn, ks, ent, p, rfl, ha, hn, hkn, hs, hks, h1, d1, d2, q⟩ := h
  refine ⟨_, (pss_cons (ps_if (pt_not (pt_val (pe_k C_is_entry (hr.mono (by decide)) (by rfl) T.g_is_entry (pa_cons (pv 1) pa_nil)))) pss_never pss_nil)
    (pss_cons (ps_asg (pe_lc (own := [("one", 5)]) (g := gName 5) (by rfl) sc_done.nd (pi_tup (pv 0)) (blkOk_by (own := [("one", 5)]) (N := ["state", "entry", "place", "nodes", "sessions", "one", "asker", "stamp", "deed", "limit", "last", "elder", "where", "found", "answer", "events"]) (sc := defScope s_done) (by decide +kernel)) (fun _ _ _ _ _ => pg_name (i := 5) sc_done.nd rfl (Or.inl rfl)) (fun _ _ _ _ _ => pts_nil) (fun _ _ _ _ _ => (pe_callTy call_dictD (by rfl) T.b_dict bt_dict (pa_cons (pv 5) pa_nil)))) (pg_unl rfl (pgs_cons (pg_name (i := 3) sc_done.nd rfl (Or.inl rfl)) (pgs_cons (pg_name (i := 4) sc_done.nd rfl (Or.inl rfl)) pgs_nil))))
    (pss_cons (ps_asg (pe_ix ix_tup (pv 1) pe_int (fun _ _ => rfl)) (pg_name (i := 6) sc_done.nd rfl (Or.inl rfl)))
    (pss_cons (ps_if (pt_cmpR op_eq (pe_ix ix_tup (pv 1) pe_int (fun _ _ => rfl)) pe_str (nomark _)) pss_never pss_nil)
    (pss_cons (ps_asg (pe_slice sl_tup (pv 1) (po_some pe_int) po_none) (pg_tup rfl (pgs_cons (pg_name (i := 7) sc_done.nd rfl (Or.inl rfl)) (pgs_cons (pg_name (i := 8) sc_done.nd rfl (Or.inl rfl)) pgs_nil))))
    (pss_cons (ps_asg (pe_dget2 (u1 hr) (pv 4) (pv 6) (pe_gR (by rfl) T.g_NEVER) ⟨rfl, rfl, rfl, rfl⟩) (pg_tup rfl (pgs_cons (pg_name (i := 9) sc_done.nd rfl (Or.inl rfl)) (pgs_cons (pg_name (i := 10) sc_done.nd rfl (Or.inl rfl)) (pgs_cons (pg_name (i := 11) sc_done.nd rfl (Or.inl rfl)) (pgs_cons (pg_name (i := 12) sc_done.nd rfl (Or.inl rfl)) pgs_nil))))))
    (pss_cons (ps_if (pt_cmpR op_le (pv 7) (pv 10) (nomark _)) (pss_one (ps_ret (pe_tup (pa_cons (pe_tup (pa_cons (pv 3) (pa_cons (pv 4) pa_nil))) (pa_cons (pe_ifExp (pt_cmpR op_eq (pv 7) (pv 10) (nomark _)) (pv 11) pe_non) (pa_cons (pe_lst pa_nil) pa_nil)))))) pss_nil)
    (pss_cons (ps_asg (pe_k C_done_deed (hr.mono (by decide)) (by rfl) T.g_done_deed (pa_cons (pv 3) (pa_cons (pv 9) (pa_cons (pv 8) (pa_cons (pv 6) pa_nil))))) (pg_tup rfl (pgs_cons (pg_name (i := 13) sc_done.nd rfl (Or.inl rfl)) (pgs_cons (pg_name (i := 9) sc_done.nd rfl (Or.inl rfl)) (pgs_cons (pg_name (i := 14) sc_done.nd rfl (Or.inl rfl)) (pgs_cons (pg_name (i := 15) sc_done.nd rfl (Or.inl rfl)) pgs_nil))))))
    (pss_cons (ps_dput (u1 hr) (pv 4) (pv 6) (pe_tup (pa_cons (pv 9) (pa_cons (pv 7) (pa_cons (pv 14) (pa_cons (pv 2) pa_nil))))) rfl)
    (pss_one (ps_ret (pe_tup (pa_cons (pe_tup (pa_cons (pe_callTy call_dictD (by rfl) T.b_dict bt_dict (pa_cons (pv 13) pa_nil)) (pa_cons (pv 4) pa_nil))) (pa_cons (pv 14) (pa_cons (pv 15) pa_nil))))))))))))))), ?_⟩
  refine q_ifF (et_n (et_b (evd_F ent h1 (eds_one (evd_var d1))))) fun H1 e1 => ?_
  -- nodes, sessions = [dict(one) for one in state]
  refine ⟨_, rfl, a, rfl, ⟨_, Evl.ex_t e1 ha⟩, fun D hD => ?_⟩
  refine lc_tup (xs := [.ref n, .ref s]) (fun i H' => Ex H1 H' ∧ H1 D = none ∧ (i = 0 → H' D = some (.lst [])) ∧ (i = 1 → ∃ n1, H' D = some (.lst [.ref n1]) ∧ H1 n1 = none ∧ n1 ≠ D ∧ H' n1 = some (.dK kn)) ∧
    (i = 2 → ∃ n1 s1, H' D = some (.lst [.ref n1, .ref s1]) ∧ H1 n1 = none ∧ H1 s1 = none ∧ n1 ≠ s1 ∧ n1 ≠ D ∧ s1 ≠ D ∧ H' n1 = some (.dK kn) ∧ H' s1 = some (.dK ks))) ?_ ?_ ?_ ?_
  · exact ⟨Evl.Ex.new hD, hD, fun _ => upd_same, fun z => (by cases z), fun z => (by cases z)⟩
  · intro i H' _ p
    exact Evl.ex_t (e1.trans p.1) ha
  · intro i x H' hx pv
    obtain ⟨e2, hDn, p0, p1, _⟩ := pv
    refine ⟨rfl, ?_⟩
    match i, hx, p0, p1 with
    | 0, hx, p0, _ =>
      have hx : V.ref n = x := Option.some.inj hx
      subst hx
      refine c_yes (c_cb (c_cons (c_var (c_nil ⟨n, kn, rfl, .inl (e2 _ _ (e1 _ _ hn)), fun n1 hn1 => ?_⟩))))
      have eD := p0 rfl
      have nD : n1 ≠ D := fun z => by rw [z, eD] at hn1; cases hn1
      refine ⟨[], by rw [upd_ne nD.symm]; exact eD, Nat.lt_of_lt_of_le Nat.zero_lt_one (by decide), ?_⟩
      exact ⟨Evl.Ex.mut (e2.trans (Evl.Ex.new hn1)) hDn, hDn, fun z => (by cases z), fun _ => ⟨n1, upd_same, Evl.fresh_back e2 hn1, nD, by rw [upd_ne nD]; exact upd_same⟩, fun z => (by cases z)⟩
    | 1, hx, _, p1 =>
      have hx : V.ref s = x := Option.some.inj hx
      subst hx
      refine c_yes (c_cb (c_cons (c_var (c_nil ⟨s, ks, rfl, .inl (e2 _ _ (e1 _ _ hs)), fun s1 hs1 => ?_⟩))))
      obtain ⟨n1, eD, f1, nD1, g1⟩ := p1 rfl
      have nD : s1 ≠ D := fun z => by rw [z, eD] at hs1; cases hs1
      have ns : n1 ≠ s1 := fun z => by rw [← z, g1] at hs1; cases hs1
      refine ⟨[.ref n1], by rw [upd_ne nD.symm]; exact eD, Nat.lt_of_lt_of_le (show 1 < 2 by decide) (by decide), ?_⟩
      refine ⟨Evl.Ex.mut (e2.trans (Evl.Ex.new hs1)) hDn, hDn, fun z => (by cases z), fun z => (by cases z), fun _ => ⟨n1, s1, upd_same, f1, Evl.fresh_back e2 hs1, ns, nD1, nD, ?_, ?_⟩⟩
      · rw [upd_ne nD1, upd_ne ns]; exact g1
      · rw [upd_ne nD]; exact upd_same
    | i + 2, hx, _, _ => cases hx
  · intro H2 pv
    obtain ⟨e2, _, _, _, pv⟩ := pv
    obtain ⟨n1, s1, hDl, f1, f2, ne, ne1, ne2, hn1, hs1⟩ := pv rfl
    have d1 := dp_ex (e1.trans e2) d1
    have d2 := dp_ex (e1.trans e2) d2
    refine ⟨D, _, rfl, .of hDl, rfl, _, _, rfl, _, _, rfl, rfl, ?_⟩
    refine q_asgD (evd_op (evd_var d1) evd_int (rd_ixT rfl)) fun v H3 e3 d3 => ?_
    rw [dp_str d3]
    have d1 := dp_ex e3 d1
    refine q_ifF (et_t (evd_op (evd_op (evd_var d1) evd_int (rd_ixT rfl)) evd_str (rd_eqS (a := "ask") (b := "end")))) fun H4 e4 => ?_
    have d1 := dp_ex e4 d1
    -- stamp, deed = entry[2:]
    refine ⟨v1, rfl, ?_⟩
    obtain ⟨ae, xs, rfl, g1, g2⟩ := dp_tup d1
    obtain ⟨x1, x2, x3, x4, rfl, z1, z2, z3, z4⟩ := dpA4 g2
    have hx3 := dp_int z3
    subst hx3
    refine ⟨2, rfl, ae, _, rfl, g1, fun z => absurd z.1 (show ¬ (2 = 0) by decide), fun c hc => ?_⟩
    have hcut : cutV [x1, x2, V.int (ent.2 : Int), x4] (some 2) none = [V.int (ent.2 : Int), x4] := rfl
    rw [hcut]
    have e5 := Evl.Ex.new (o := HO.tup [V.int (ent.2 : Int), x4]) hc
    refine ⟨c, _, rfl, SqT.of upd_same, rfl, _, _, rfl, _, _, rfl, rfl, ?_⟩
    have z4 := dp_ex e5 z4
    have E5 := ((e3.trans e4).trans e5)
    have d2 := dp_ex E5 d2
    have hn1 := E5 _ _ hn1
    have hs1 := E5 _ _ hs1
    have E0 := (e1.trans e2).trans E5
    have hks := hks.keep (ex_tups E0) (ex_frz E0)
    -- sessions.get(asker, NEVER)
    refine ⟨_, rfl, s1, rfl, .inl ⟨ks, .inl hs1⟩, _, rfl, _, DGet.k (k := Sum.inr (whoS ent.1)) hs1, ?_⟩
    have hgo : ∃ (m : Nat) (da : PyData) (p : Place), Imm da ∧ Dp K (upd H4 c (HO.tup [V.int (ent.2 : Int), x4])) ((valV ks (Sum.inr (whoS ent.1))).getD (.ref (He.ga K "NEVER"))) (.tuple [.none, dI m, da, dP p]) := by
      cases hv : valV ks (Sum.inr (whoS ent.1)) with
      | none => exact ⟨0, .none, (0, 0), .non, T.never _⟩
      | some u =>
        obtain ⟨m, da, p, i1, i2⟩ := hks.val hv
        exact ⟨m, da, p, i1, i2⟩
    obtain ⟨m, da, p', hi, hgo⟩ := hgo
    obtain ⟨ag, ys, hgv, g3, g4⟩ := dp_tup hgo
    obtain ⟨y1, y2, y3, y4, rfl, w1, w2, w3, w4⟩ := dpA4 g4
    rw [dp_non w1, dp_int w2] at g3
    refine ⟨ag, _, hgv, g3, rfl, _, _, rfl, _, _, rfl, _, _, rfl, _, _, rfl, rfl, ?_⟩
    have HN : ∀ {H' : Hp}, Ex (upd H4 c (HO.tup [V.int (ent.2 : Int), x4])) H' → Ex H H' := fun e => E0.trans e
    simp only [L2.start, List.map_cons, List.map_nil, List.length_cons, List.length_nil, List.replicate_succ, List.replicate_zero, List.cons_append, List.nil_append, List.set_cons_zero, List.set_cons_succ, Nat.reduceAdd, Nat.reduceSub]
    refine Evl.q_when (Evl.et_test (ev_bl (K := K) (evd_op (evd_var (i := 7) (.int _)) (evd_var (i := 10) (.int _)) (rd_I0 fun H => .bl _)))) (fun _ H6 e6 => ?_) fun _ H6 e6 => ?_
    · have E6 := HN e6
      refine c_ret (c_tup (c_cons (c_tup (c_cons (c_var (c_cons (c_var (c_nil ⟨Evl.sz_of (show 2 ≤ 100000 by decide), fun t ht => ?_⟩))))))))
      have e7 := Evl.Ex.new (o := HO.tup [.ref n1, .ref s1]) ht
      have fin : ∀ (x : V) (H8 : Hp), Ex (upd H6 t (HO.tup [.ref n1, .ref s1])) H8 → tCons (tLst tNil) tNil [some (.ref a), some (.ref ae), some v2, some (.ref n1), some (.ref s1), none, some (.str (whoS ent.1)), some (.int (ent.2 : Int)), some x4, some .non, some (.int (m : Int)), some y3, some y4, none, none, none] H8 fun vs H9 => (V.ref t :: x :: vs).length ≤ sizeLine ∧ ∀ p, H9 p = none → Q (.ref p) (upd H9 p (.tup (V.ref t :: x :: vs))) := fun x H8 e8 => by
        refine c_cons (c_lst (c_nil ⟨Evl.sz_of (Nat.zero_le _), fun l hl => c_nil ⟨Evl.sz_of (show 3 ≤ 100000 by decide), fun r hr => ?_⟩⟩))
        have e9 := Evl.Ex.new (o := HO.lst []) hl
        have e10 := Evl.Ex.new (o := HO.tup [V.ref t, x, .ref l]) hr
        have Z := (e8.trans e9).trans e10
        have ZZ := (e6.trans e7).trans Z
        exact q r t n1 s1 x (.ref l) _ (E0.trans ZZ) ⟨SqT.of (Z _ _ upd_same), ⟨kn, ZZ _ _ hn1, hkn⟩, ⟨ks, ZZ _ _ hs1, hks.keep (ex_tups ZZ) (ex_frz ZZ)⟩, Evl.fresh_back e1 f1, Evl.fresh_back e1 f2, ne⟩ (SqT.of upd_same)
      exact c_cons (c_if (et_t (K := K) (evd_op (evd_var (.int _)) (evd_var (.int _)) rd_eqI)) (fun _ H8 e8 => c_var (fin _ H8 e8)) fun _ H8 e8 => c_c (fin _ H8 e8))
    · -- done_deed
      have E6 := HN e6
      have hn1 := e6 _ _ hn1
      have hs1 := e6 _ _ hs1
      have hks := hks.keep (ex_tups e6) (ex_frz e6)
      have z4 := dp_ex e6 z4
      have d2 := dp_ex e6 d2
      refine c_asg (c_call (c_cons (c_var (c_cons (c_var (c_cons (c_var (c_cons (c_var (c_nil ?_))))))))))
      refine ⟨n1, x4, ent.1, rfl, z4, fun r a2 l H7 e7 g7 d7 => ?_⟩
      refine ⟨r, _, rfl, g7, rfl, _, _, rfl, _, _, rfl, _, _, rfl, _, _, rfl, rfl, ?_⟩
      simp only [L2.start, List.map_cons, List.map_nil, List.length_cons, List.length_nil, List.replicate_succ, List.replicate_zero, List.cons_append, List.nil_append, List.set_cons_zero, List.set_cons_succ, Nat.reduceAdd, Nat.reduceSub]
      have hn1 := e7 _ _ hn1
      have hs1 := e7 _ _ hs1
      have hks := hks.keep (ex_tups e7) (ex_frz e7)
      have d2 := dp_ex e7 d2
      -- sessions[asker] = ..
      refine c_dput (c_tup (c_cons (c_var (c_cons (c_var (c_cons (c_var (c_cons (c_var (c_nil ⟨Evl.sz_of (show 4 ≤ 100000 by decide), fun t ht => ?_⟩))))))))))
      generalize hH8 : upd H7 t (HO.tup [V.non, .int (ent.2 : Int), a2, v2]) = H8
      have e8 : Ex H7 H8 := hH8 ▸ Evl.Ex.new ht
      have s8 : SqT K H8 t [V.non, .int (ent.2 : Int), a2, v2] := hH8 ▸ SqT.of upd_same
      have hn1 := e8 _ _ hn1
      have hs1 := e8 _ _ hs1
      have hks := hks.keep (ex_tups e8) (ex_frz e8)
      have dt : Dp K H8 (.ref t) (.tuple [.none, dI ent.2, .tuple [.str "no", .str "closed"], dP p]) := .tup s8 (.cons .non (.cons (.int _) (.cons (dp_ex e8 d7) (.cons (dp_ex e8 d2) .nil))))
      have hks2 := hks.put (b := ent.1) (imm_two (.str _) (.str _) |> Imm.tup) dt
      refine ⟨_, rfl, _, rfl, s1, _, rfl, DPut.k (k := Sum.inr (whoS ent.1)) hs1 (Evl.sz_lt (by have := hks.len; omega)), ?_⟩
      generalize hH9 : upd H8 s1 (.dK (putK ks (Sum.inr (whoS ent.1)) (.ref t))) = H9
      have E8 := (E6.trans e7).trans e8
      have hs0 : H s1 = none := Evl.fresh_back e1 f2
      have hn0 : H n1 = none := Evl.fresh_back e1 f1
      have E9 : Ex H H9 := hH9 ▸ Evl.Ex.mut E8 hs0
      have tu : Tups H8 H9 := fun b xs hb => by rw [← hH9, upd_ne (ne_of hb hs1 (by intro z; cases z))]; exact hb
      have fr : Frz H8 H9 := fun b o u hb => by rw [← hH9, upd_ne (ne_of hb hs1 (by intro z; cases z))]; exact hb
      have hks3 := hks2.keep tu fr
      have hn2 : H9 n1 = some (.dK kn) := by rw [← hH9, upd_ne ne]; exact hn1
      have hs2 : H9 s1 = some (.dK (putK ks (Sum.inr (whoS ent.1)) (.ref t))) := by rw [← hH9]; exact upd_same
      clear hH8 hH9
      refine c_ret (c_tup (c_cons (c_tup (c_cons (c_cb (c_cons (c_var (c_nil ⟨n1, kn, rfl, .inl hn2, fun n2 hn3 => c_cons (c_var (c_nil ⟨Evl.sz_of (show 2 ≤ 100000 by decide), fun t2 ht2 => c_cons (c_var (c_cons (c_var (c_nil ⟨Evl.sz_of (show 3 ≤ 100000 by decide), fun r2 hr2 => ?_⟩))))⟩))⟩))))))))
      have e10 := Evl.Ex.new (o := HO.dK kn) hn3
      have e11 := Evl.Ex.new (o := HO.tup [.ref n2, .ref s1]) ht2
      have e12 := Evl.Ex.new (o := HO.tup [.ref t2, a2, l]) hr2
      have Z := e11.trans e12
      have ZZ := e10.trans Z
      have ns : n2 ≠ s1 := fun z => by rw [z, hs2] at hn3; cases hn3
      exact q r2 t2 n2 s1 a2 l _ (E9.trans ZZ) ⟨SqT.of (e12 _ _ upd_same), ⟨kn, Z _ _ upd_same, hkn⟩, ⟨_, ZZ _ _ hs2, hks3.keep (ex_tups ZZ) (ex_frz ZZ)⟩, Evl.fresh_back E9 hn3, hs0, ns⟩ (SqT.of upd_same)
end
end Wn

set_option Elab.async false
set_option linter.all false
set_option maxRecDepth 100000
set_option maxHeartbeats 4000000
/-! rows. -/
namespace Wn
open PySem PySem.Spec PyProof.Rows L2
open Zab hiding World Place Row
section
variable {K : PySem.W.Frag} {σ : L2.St} {H : Hp} {te ta : TE} {tl th : TO}
theorem evd_neg {i : Int} : EvD K (tUn (rU fun i => .int (-i)) (tC (.int i))) σ H (.int (-i)) := evd_ev (Evl.ev_un Evl.ev_c fun H1 _ Q k => ⟨i, rfl, k H1 (Evl.Ex.refl _)⟩) (.int _)
/-- xs[:n] of a list -/
theorem evn_upto {ds : List PyData} {n : Nat} (h : EvD K te σ H (.list ds)) (h2 : EvD K ta σ H (.int (n : Int))) : EvN K (tSl (rSlL K) te tNoPart (tPart ta)) σ H (ds.take n) := fun H1 e Q q =>
  h H1 e _ fun v H2 e2 d => h2 H2 (e.trans e2) _ fun u H3 e3 d3 => by
    have d := dp_ex e3 d
    obtain ⟨a, xs, rfl, s1, s2⟩ := dp_lst d
    rw [dp_int d3]
    refine ⟨n, rfl, a, xs, rfl, s1, fun p hp => ?_⟩
    have hc : cutV xs none (some (n : Int)) = xs.take n := by
      have z : HT.sIx xs.length xs.length (some (n : Int)) = min n xs.length := by
        simp only [HT.sIx]
        split
        · omega
        · omega
      unfold cutV
      rw [z]
      show (xs.drop 0).take (min n xs.length - 0) = _
      rw [List.drop_zero, Nat.sub_zero]
      rcases Nat.le_total n xs.length with c | c
      · rw [Nat.min_eq_left c]
      · rw [Nat.min_eq_right c, List.take_length, List.take_of_length_le c]
    rw [hc]
    have e4 := Evl.Ex.new (o := HO.lst (xs.take n)) hp
    exact q p _ (Evl.fresh_back (e2.trans e3) hp) ((e2.trans e3).trans e4) ⟨_, upd_same, dpA_ex e4 (dpA_take n s2)⟩
theorem atI_last {α : Type} {l : List α} {a : α} (h : l.getLast? = some a) : atI l (-1) = some a := by
  have hl : l ≠ [] := fun z => by rw [z] at h; cases h
  have hp : 0 < l.length := List.length_pos_iff.mpr hl
  unfold atI
  have e : ixN l.length (-1) = some (l.length - 1) := by
    unfold ixN
    rw [if_neg (by omega)]
    first | (rw [if_pos (by omega)]; congr 1; omega) | (rw [if_neg (by omega)]; congr 1; omega)
  rw [e]
  show l[l.length - 1]? = some a
  rw [← h, List.getLast?_eq_getElem?]
def rLenK (K : PySem.W.Frag) : List V → Hp → VK → Prop := fun xs H Q => ∃ x n, xs = [x] ∧ LenV K x H n ∧ Q (.int n) H
theorem pe_fldK {X : Cx} {K : PySem.W.Frag} {e : Expr} {f : Str} {pos : Pos} {ta : TE} (he : PE X e ta) (hb : attributeBase e f X.env (eval e X.env) = eval e X.env) (hK : X.K = K := by rfl) : PE X (.Attribute e f pos) (tFld K ta f) := by
  subst hK
  exact pe_fld he hb
theorem pe_isiK {X : Cx} {K : PySem.W.Frag} {p pos : Pos} {e : Expr} {ta : TE} {c : String} {q : Pos} {y : Str} (hg : Gl X "isinstance") (hm : X.mg "isinstance" = none) (ha : PE X e ta) (hg2 : Gl X y) (hm2 : X.mg y = none) (hv : bootBuiltins y = some (.type c)) (hK : X.K = K := by rfl)
    (hn : y ≠ "__name__" := by decide) (hd : (y == ("__debug__" : Str)) = false := by decide) (h1 : starEach [e, .Name y q] X.env = (false, eval e X.env) :: starEach [.Name y q] X.env := by rfl) : PE X (.Call (.Name "isinstance" p) [e, .Name y q] [] pos) (tCB (rIsi K) (tCons ta (tCons (tC (.ty c)) tNil))) := by
  subst hK
  exact pe_isi hg hm ha hg2 hm2 hv hn hd h1
end
section
variable {P : Program} {w : World} {K : PySem.W.Frag} {mg : Str → Option Value} {base : Heap}
abbrev spUpTo (K : PySem.W.Frag) : Sp := spN K (fun a : Row × Place => [dR a.1, dP a.2]) (fun a => a.1.length < 100000) (fun a => (upTo a.1 a.2).map dT)
theorem sc_up_to : FnScope ["row", "place", "thing"] ["row", "place"] (defScope s_up_to) := ⟨rfl, rfl, rfl, by decide +kernel, rfl, by decide +kernel, by decide +kernel⟩
theorem ok_up_to (T : TX w K mg) : Cal P w K mg base 1 (He.ga K "up_to") ["row", "place"] (spUpTo K) [] := by
  refine cal_N T 19 (d := d_up_to) rfl rfl rfl sc_up_to (fun _ => rfl) (fun _ _ _ _ _ _ us hl => match us, hl with | [_, _], _ => rfl) fun cdv A outer s H vs E a hr hz hv => ?_
  obtain ⟨v, u, rfl, hd, hp⟩ := dpA2 hv
  refine ⟨_, (pss_one (ps_ret (pe_lc (own := [("thing", 2)]) (g := gName 2) (by rfl) sc_up_to.nd (pi_list (pv 0)) (blkOk_by (own := [("thing", 2)]) (N := ["row", "place", "thing"]) (sc := defScope s_up_to) (by decide +kernel)) (fun _ _ _ _ _ => pg_name (i := 2) sc_up_to.nd rfl (Or.inl rfl)) (fun _ _ _ _ _ => (pts_one (pt_cmpR (r := rLeT K) (op_leT hr.units0) (pe_ix (r := rIxT K) ix_tup (pv 2) pe_int (fun _ _ => rfl)) (pv 1) (nomark _)))) (fun _ _ _ _ _ => (pv 2))))), fun D q => ?_⟩
  exact s_retN (evn_lc (fun t : Thing => decide (Ple t.1 a.2)) dT (evd_var hd) hz (fun _ _ => imm_dT _) (fun t _ v H1 e hv => et_t (evd_op (evd_op (evd_var hv) evd_int (rd_ixT rfl)) (evd_var (dp_ex e hp)) rd_leP)) fun t _ v H1 e hv _ => evd_var hv) q
abbrev spBehind (K : PySem.W.Frag) : Sp := spN K (fun a : Row × Place => [dR a.1, dP a.2]) (fun a => a.1.length < 100000) (fun a => (behind a.1 a.2).map dT)
theorem sc_behind : FnScope ["row", "place", "thing"] ["row", "place"] (defScope s_behind) := ⟨rfl, rfl, rfl, by decide +kernel, rfl, by decide +kernel, by decide +kernel⟩
theorem ok_behind (T : TX w K mg) : Cal P w K mg base 1 (He.ga K "behind") ["row", "place"] (spBehind K) [] := by
  refine cal_N T 20 (d := d_behind) rfl rfl rfl sc_behind (fun _ => rfl) (fun _ _ _ _ _ _ us hl => match us, hl with | [_, _], _ => rfl) fun cdv A outer s H vs E a hr hz hv => ?_
  obtain ⟨v, u, rfl, hd, hp⟩ := dpA2 hv
  refine ⟨_, (pss_one (ps_ret (pe_lc (own := [("thing", 2)]) (g := gName 2) (by rfl) sc_behind.nd (pi_list (pv 0)) (blkOk_by (own := [("thing", 2)]) (N := ["row", "place", "thing"]) (sc := defScope s_behind) (by decide +kernel)) (fun _ _ _ _ _ => pg_name (i := 2) sc_behind.nd rfl (Or.inl rfl)) (fun _ _ _ _ _ => (pts_one (pt_cmpR (r := rGtD K) (op_gtD (hr.units)) (pe_ix (r := rIxT K) ix_tup (pv 2) pe_int (fun _ _ => rfl)) (pv 1) (nomark _)))) (fun _ _ _ _ _ => (pv 2))))), fun D q => ?_⟩
  exact s_retN (evn_lc (fun t : Thing => decide (Plt a.2 t.1)) dT (evd_var hd) hz (fun _ _ => imm_dT _) (fun t _ v H1 e hv => et_t (evd_op (evd_op (evd_var hv) evd_int (rd_ixT rfl)) (evd_var (dp_ex e hp)) rd_gtP)) fun t _ v H1 e hv _ => evd_var hv) q
abbrev spLast (K : PySem.W.Frag) : Sp := spF K (fun r : Row => [dR r]) (fun _ => True) (fun r => dP (last r))
theorem sc_last_place : FnScope ["row"] ["row"] (defScope s_last_place) := ⟨rfl, rfl, rfl, by decide +kernel, rfl, by decide +kernel, by decide +kernel⟩
theorem ok_last_place (T : TX w K mg) : Cal P w K mg base 1 (He.ga K "last_place") ["row"] (spLast K) [] := by
  refine cal_F T 21 (d := d_last_place) rfl rfl rfl sc_last_place (fun _ => rfl) (fun _ _ _ _ _ _ us hl => match us, hl with | [_], _ => rfl) fun cdv A outer s H vs E r hr _ hv => ?_
  obtain ⟨v, rfl, hd⟩ := dpA1 hv
  refine ⟨_, (pss_one (ps_ret (pe_ifExp (pt_cmpR (op_neD (hr.units)) (pv 0) (pe_lst pa_nil) (nomark _)) (pe_ix ix_tup (pe_ix ix_list (pv 0) (pe_un un_neg pe_int) (fun _ _ => rfl)) pe_int (fun _ _ => rfl)) (pe_gR (by rfl) T.g_NOWHERE)))), fun D q => ?_⟩
  refine s_retD (evd_if (b := !r.isEmpty) (et_to (et_t (evd_op (evd_var hd) (evn_lst eds_nil).d (rd_neD (shp_dR r) (ShpA.nil 0).lst))) ?_) (fun hb => ?_) fun hb => ?_) q
  · rw [show dR r = .list (r.map dT) from rfl, eqv_nil, List.isEmpty_map]
  · cases hl : r.getLast? with
    | none => rw [List.getLast?_eq_none_iff.mp hl] at hb; cases hb
    | some t =>
      have e : dP (last r) = dP t.1 := by unfold last; rw [hl]
      rw [e]
      exact evd_op (evd_op (evd_var hd) evd_neg (rd_ixL (d := dT t) (atI_last (by rw [List.getLast?_map, hl]; rfl)))) evd_int (rd_ixT rfl)
  · have : r = [] := by cases r with | nil => rfl | cons => cases hb
    subst this
    exact evd_c (T.nowhere H)
abbrev spBegin (K : PySem.W.Frag) : Sp := spF K (fun a : Row × Row => [dR a.1, dR a.2]) (fun a => a.1.length < 100000) (fun a => .bool (decide (a.2.take a.1.length = a.1)))
theorem sc_is_beginning : FnScope ["one", "other"] ["one", "other"] (defScope s_is_beginning) := ⟨rfl, rfl, rfl, by decide +kernel, rfl, by decide +kernel, by decide +kernel⟩
theorem ok_is_beginning (T : TX w K mg) : Cal P w K mg base 1 (He.ga K "is_beginning") ["one", "other"] (spBegin K) [] := by
  refine cal_F T 18 (d := d_is_beginning) rfl rfl rfl sc_is_beginning (fun _ => rfl) (fun _ _ _ _ _ _ us hl => match us, hl with | [_, _], _ => rfl) fun cdv A outer s H vs E a hr hz hv => ?_
  obtain ⟨v, u, rfl, hd, hp⟩ := dpA2 hv
  refine ⟨_, (pss_one (ps_ret (pe_cmpR (op_eqD (hr.units)) (pe_slice sl_list (pv 1) po_none (po_some (pe_callB call_len (by rfl) T.b_len PySem.boot_len (pa_cons (pv 0) pa_nil)))) (pv 0) (nomark _)))), fun D q => ?_⟩
  have e : (a.2.map dT).take a.1.length = (a.2.take a.1.length).map dT := List.map_take.symm
  refine s_retD ((evd_op (evn_upto (evd_var hp) ((evd_lenL (evd_var hd)).to (by rw [List.length_map]))).d (evd_var hd) (by rw [e]; exact rd_eqD (shp_dR _) (shp_dR _))).to ?_) q
  rw [← eqv_dR]
  rfl
abbrev spMost (K : PySem.W.Frag) : Sp := spF K (fun M : List Nat => [.tuple (M.map dN)]) (fun _ => True) (fun M => dI (most M.length))
theorem sc_most_of : FnScope ["members"] ["members"] (defScope s_most_of) := ⟨rfl, rfl, rfl, by decide +kernel, rfl, by decide +kernel, by decide +kernel⟩
theorem ok_most_of (T : TX w K mg) : Cal P w K mg base 1 (He.ga K "most_of") ["members"] (spMost K) [] := by
  refine cal_F T 23 (d := d_most_of) rfl rfl rfl sc_most_of (fun _ => rfl) (fun _ _ _ _ _ _ us hl => match us, hl with | [_], _ => rfl) fun cdv A outer s H vs E M hr _ hv => ?_
  obtain ⟨v, rfl, hd⟩ := dpA1 hv
  refine ⟨_, (pss_one (ps_ret (pe_op op_add (pe_op op_fdiv (pe_callB call_len (by rfl) T.b_len PySem.boot_len (pa_cons (pv 0) pa_nil)) pe_int) pe_int))), fun D q => ?_⟩
  exact s_retD (evd_op (evd_op ((evd_lenT (evd_var hd)).to (by rw [List.length_map])) evd_int (rd_I (z := dI (M.length / 2)) (by unfold CDiv; omega) fun H => .int _)) evd_int (rd_I0 (z := dI (most M.length)) fun H => .int _)) q
abbrev spMay (K : PySem.W.Frag) : Sp := spF K (fun a : (Nat × Place) × (Nat × Place) => [.str "all", .tuple [dI a.1.1, dP a.1.2], .tuple [dI a.2.1, dP a.2.2]]) (fun _ => True) (fun a => .bool (decide (a.1.1 < a.2.1 ∨ (a.1.1 = a.2.1 ∧ Ple a.1.2 a.2.2))))
theorem sc_may_promise : FnScope ["looks", "own", "other"] ["looks", "own", "other"] (defScope s_may_promise) := ⟨rfl, rfl, rfl, by decide +kernel, rfl, by decide +kernel, by decide +kernel⟩
theorem ok_may_promise (T : TX w K mg) : Cal P w K mg base 1 (He.ga K "may_promise") ["looks", "own", "other"] (spMay K) [] := by
  refine cal_F T 24 (d := d_may_promise) rfl rfl rfl sc_may_promise (fun _ => rfl) (fun _ _ _ _ _ _ us hl => match us, hl with | [_, _, _], _ => rfl) fun cdv A outer s H vs E a hr _ hv => ?_
  obtain ⟨v, u, x, rfl, h1, h2, h3⟩ := dpA3 hv
  refine ⟨_, (pss_cons (ps_if (pt_cmpR op_eq (pv 0) pe_str (nomark _)) (pss_one (ps_ret pe_bl)) pss_nil)
    (pss_cons (ps_if (pt_cmpR op_eq (pv 0) pe_str (nomark _)) (pss_one (ps_ret (pe_cmpR op_ge (pe_ix ix_tup (pv 2) pe_int (fun _ _ => rfl)) (pe_ix ix_tup (pv 1) pe_int (fun _ _ => rfl)) (nomark _)))) pss_nil)
    (pss_one (ps_ret (pe_cmpR (op_geD (hr.units)) (pv 2) (pv 1) (nomark _)))))), fun D q => ?_⟩
  refine q_ifF (et_t (evd_op (evd_var h1) evd_str (rd_eqS (a := "all") (b := "none")))) fun H1 e1 => ?_
  refine q_ifF (et_t (evd_op (evd_var (dp_ex e1 h1)) evd_str (rd_eqS (a := "all") (b := "epoch")))) fun H2 e2 => ?_
  exact s_retD (evd_op (evd_var (dp_ex (e1.trans e2) h3)) (evd_var (dp_ex (e1.trans e2) h2)) rd_geQ) fun v H3 e3 d => q v H3 ((e1.trans e2).trans e3) d
end
end Wn

set_option Elab.async false
set_option linter.all false
set_option maxRecDepth 100000
set_option maxHeartbeats 4000000
/-! letters' shapes. -/
namespace Wn
open PySem PySem.Spec PyProof.Rows L2
open Zab hiding World Place Row
section
variable {K : PySem.W.Frag} {σ : L2.St} {H : Hp} {te : TE} {ta : TA} {vs : List Nat} {α : Type}
/-- [e for x, y in zip(xs, ys)] -/
theorem evn_lcZ {i j : Nat} {zs : List α} {xs ys : List PyData} {g1 g2 : α → PyData} (f : α → PyData) (h : EvDs K ta σ H [.list xs, .list ys]) (hz : zs.length < 100000) (hn : zs.length = min xs.length ys.length)
    (hx : ∀ (k : Nat) (a : α), zs[k]? = some a → xs[k]? = some (g1 a) ∧ ys[k]? = some (g2 a)) (hi : ∀ a ∈ zs, Imm (f a))
    (he : ∀ a ∈ zs, ∀ v w H1, Ex H H1 → Dp K H1 v (g1 a) → Dp K H1 w (g2 a) → EvD K te (((wipe σ vs).set i (some v)).set j (some w)) H1 (f a))
    (hw : ∀ x y, wipe (((wipe σ vs).set i (some x)).set j (some y)) vs = wipe σ vs := by intro _ _; rfl) : EvN K (tLc (iZip K ta) (gTup K 2 (gCons (gName i) (gCons (gName j) gNil))) tYes te vs) σ H (zs.map f) := fun H0 e Q q =>
  h H0 e _ fun us H1 e1 hv => by
    obtain ⟨v, w, rfl, hv1, hv2⟩ := dpA2 hv
    obtain ⟨a, ws, rfl, s1, s2⟩ := dp_lst hv1
    obtain ⟨b, us, rfl, t1, t2⟩ := dp_lst hv2
    have l1 := dpA_len s2
    have l2 := dpA_len t2
    refine ⟨a, b, ws, us, rfl, s1, t1, fun D hD => lc_it (walk_zip (n := zs.length) (xs := ws) (ys := us) (by rw [l1, l2]; exact hn)) (fun i H' => LcW K H1 D ((zs.take i).map f) H') ⟨hD, Evl.Ex.new hD, ⟨[], upd_same, .nil⟩, fun d hd => by cases hd⟩
      (fun i H' _ p => ⟨Evl.ex_l p.2.1 s1, Evl.ex_l p.2.1 t1⟩) (fun k x H' H'' hk p hy => ?_) fun H' p => ?_⟩
    · obtain ⟨T, x, y, rfl, hT, rfl, hx1, hy1⟩ := hy
      have ha' : zs[k]? = some zs[k] := List.getElem?_eq_getElem hk
      generalize zs[k] = a' at ha'
      obtain ⟨z1, z2⟩ := hx k a' ha'
      have hm := List.mem_of_getElem? ha'
      have eT := Evl.Ex.new (o := HO.tup [x, y]) hT
      have E := p.2.1.trans eT
      have dx := dp_ex E (dpA_at s2 hx1 z1)
      have dy := dp_ex E (dpA_at t2 hy1 z2)
      refine ⟨T, _, rfl, SqT.of upd_same, rfl, _, _, rfl, _, _, rfl, rfl, hw _ _, ?_⟩
      obtain ⟨p1, p2, p3, p4⟩ := p
      have p' : LcW K H1 D ((zs.take k).map f) (upd H' T (.tup [x, y])) := ⟨p1, E, p3.ex eT, p4⟩
      refine lcw_turn (b := true) (d := f a') p' (by rw [List.length_map, List.length_take]; omega) (hi a' hm) et_yes (fun _ => he a' hm x y _ ((e.trans e1).trans E) dx dy) fun H'' k => ?_
      rw [if_pos rfl] at k
      rw [List.take_add_one, ha', List.map_append]
      exact k
    · obtain ⟨p1, p2, p3, _⟩ := p
      rw [List.take_length] at p3
      exact q D H' (Evl.fresh_back e1 p1) (e1.trans p2) p3
theorem dpA_uncons {d : PyData} {ds : List PyData} {xs : List V} (h : DpAll K H xs (d :: ds)) : ∃ x r, xs = x :: r ∧ Dp K H x d ∧ DpAll K H r ds := by
  cases h with | cons a b => exact ⟨_, _, rfl, a, b⟩
/-- xs[1:] of a list -/
theorem evn_from1 {d : PyData} {ds : List PyData} (h : EvD K te σ H (.list (d :: ds))) : EvN K (tSl (rSlL K) te (tPart (tC (.int 1))) tNoPart) σ H ds := fun H1 e Q q =>
  h H1 e _ fun v H2 e2 dv => by
    obtain ⟨a, xs, rfl, s1, s2⟩ := dp_lst dv
    obtain ⟨x, r, rfl, h1, h2⟩ := dpA_uncons s2
    refine ⟨1, rfl, a, _, rfl, s1, fun p hp => ?_⟩
    have hc : cutV (x :: r) (some 1) none = r := by
      have z : HT.sIx (x :: r).length 0 (some 1) = 1 := by
        have : (x :: r).length = r.length + 1 := rfl
        simp only [HT.sIx]
        split
        · omega
        · omega
      unfold cutV
      rw [z]
      show ((x :: r).drop 1).take (r.length + 1 - 1) = r
      rw [List.drop_one, List.tail_cons, Nat.add_sub_cancel, List.take_length]
    rw [hc]
    have e4 := Evl.Ex.new (o := HO.lst r) hp
    exact q p _ (Evl.fresh_back e2 hp) (e2.trans e4) ⟨_, upd_same, dpA_ex e4 h2⟩
end
section
variable {P : Program} {w : World} {K : PySem.W.Frag} {mg : Str → Option Value} {base : Heap}
def ThOk (r : Row) (b : Place) : Prop := r.length ≤ 5000 ∧ (∀ t ∈ r, 1 ≤ t.2.2) ∧ Sorted r ∧ ∀ t ∈ r, Plt b t.1
theorem chain_ok : ∀ {r : Row} {b : Place}, Sorted r → (∀ t ∈ r, Plt b t.1) → ((b :: r.map (·.1)).zip (r.map (·.1))).map (fun a => decide (Plt a.1 a.2)) = r.map fun _ => true
  | [], _, _, _ => rfl
  | t :: r, b, h1, h2 => by
    obtain ⟨k1, k2⟩ := List.pairwise_cons.mp h1
    show decide (Plt b t.1) :: _ = true :: _
    rw [decide_eq_true (h2 t (List.mem_cons_self ..))]
    congr 1
    exact chain_ok k2 k1
abbrev spThings (K : PySem.W.Frag) : Sp := spF K (fun a : Row × Place => [dTs a.1, dP a.2]) (fun a => ThOk a.1 a.2) (fun _ => .bool true)
theorem sc_are_things : FnScope ["thing", "base", "one", "place", "entry", "places", "other"] ["thing", "base"] (defScope s_are_things) := ⟨rfl, rfl, rfl, by decide +kernel, rfl, by decide +kernel, by decide +kernel⟩
theorem ok_are_things (T : TX w K mg) : Cal P w K mg base 4 (He.ga K "are_things") ["thing", "base"] (spThings K) [] := by
  have C_is_place := ok_is_place (P := P) (base := base) T
  have C_is_entry := ok_is_entry (P := P) (base := base) T
  refine cal_F T 10 (d := d_are_things) rfl rfl rfl sc_are_things (fun _ => rfl) (fun _ _ _ _ _ _ us hl => match us, hl with | [_, _], _ => rfl) fun cdv A outer s H vs E a hr hz hv => ?_
  obtain ⟨v, u, rfl, hd, hp⟩ := dpA2 hv
  obtain ⟨r, b⟩ := a
  obtain ⟨z1, z2, z3, z4⟩ : ThOk r b := hz
  have hd : Dp K H v (.tuple (r.map dT)) := hd
  refine ⟨_, (pss_cons (ps_if (PW.pt (pw_or (pt_not (pt_val (pe_isi (by rfl) T.b_isinstance (pv 0) (by rfl) T.b_tuple bt_tuple))) (pw_or1 (pt_not (pt_val (pe_callB (cr_all rfl) (by rfl) T.b_all bt_all (pa_cons (pe_lc (own := [("one", 2)]) (g := gName 2) (by rfl) sc_are_things.nd (pi_tup (pv 0)) (blkOk_by (own := [("one", 2)]) (N := ["thing", "base", "one", "place", "entry", "places", "other"]) (sc := defScope s_are_things) (by decide +kernel)) (fun _ _ _ _ _ => pg_name (i := 2) sc_are_things.nd rfl (Or.inl rfl)) (fun _ _ _ _ _ => pts_nil) (fun _ _ _ _ _ => (pe_and (pe_isiK (K := K) (by rfl) T.b_isinstance (pv 2) (by rfl) T.b_tuple bt_tuple) (pe_one (pe_cmpR op_eq (pe_callB (r := rLenK K) call_len (by rfl) T.b_len PySem.boot_len (pa_cons (pv 2) pa_nil)) pe_int (nomark _)))))) pa_nil))))))) (pss_one (ps_ret pe_bl)) pss_nil)
    (pss_cons (ps_if (pt_not (pt_val (pe_callB (cr_all rfl) (by rfl) T.b_all bt_all (pa_cons (pe_lc (own := [("place", 3), ("entry", 4)]) (g := gTup K 2 (gCons (gName 3) (gCons (gName 4) gNil))) (by rfl) sc_are_things.nd (pi_tup (pv 0)) (blkOk_by (own := [("place", 3), ("entry", 4)]) (N := ["thing", "base", "one", "place", "entry", "places", "other"]) (sc := defScope s_are_things) (by decide +kernel)) (fun _ _ _ _ _ => pg_tup rfl (pgs_cons (pg_name (i := 3) sc_are_things.nd rfl (Or.inl rfl)) (pgs_cons (pg_name (i := 4) sc_are_things.nd rfl (Or.inl rfl)) pgs_nil))) (fun _ _ _ _ _ => pts_nil) (fun _ _ _ _ _ => (pe_and (pe_k C_is_place (hr.mono (by decide)) (by rfl) T.g_is_place (pa_cons (pv 3) pa_nil)) (pe_one (pe_k C_is_entry (hr.mono (by decide)) (by rfl) T.g_is_entry (pa_cons (pv 4) pa_nil)))))) pa_nil)))) (pss_one (ps_ret pe_bl)) pss_nil)
    (pss_cons (ps_asg (pe_op op_cat (pe_lst (pa_cons (pv 1) pa_nil)) (pe_lc (own := [("place", 3), ("entry", 4)]) (g := gTup K 2 (gCons (gName 3) (gCons (gName 4) gNil))) (by rfl) sc_are_things.nd (pi_tup (pv 0)) (blkOk_by (own := [("place", 3), ("entry", 4)]) (N := ["thing", "base", "one", "place", "entry", "places", "other"]) (sc := defScope s_are_things) (by decide +kernel)) (fun _ _ _ _ _ => pg_tup rfl (pgs_cons (pg_name (i := 3) sc_are_things.nd rfl (Or.inl rfl)) (pgs_cons (pg_name (i := 4) sc_are_things.nd rfl (Or.inl rfl)) pgs_nil))) (fun _ _ _ _ _ => pts_nil) (fun _ _ _ _ _ => (pv 3)))) (pg_name (i := 5) sc_are_things.nd rfl (Or.inl rfl)))
    (pss_one (ps_ret (pe_callB (cr_all rfl) (by rfl) T.b_all bt_all (pa_cons (pe_lc (own := [("one", 2), ("other", 6)]) (g := gTup K 2 (gCons (gName 2) (gCons (gName 6) gNil))) (by rfl) sc_are_things.nd (pi_zip (by rfl) T.b_zip (pa_cons (pv 5) (pa_cons (pe_slice sl_list (pv 5) (po_some pe_int) po_none) pa_nil))) (blkOk_by (own := [("one", 2), ("other", 6)]) (N := ["thing", "base", "one", "place", "entry", "places", "other"]) (sc := defScope s_are_things) (by decide +kernel)) (fun _ _ _ _ _ => pg_tup rfl (pgs_cons (pg_name (i := 2) sc_are_things.nd rfl (Or.inl rfl)) (pgs_cons (pg_name (i := 6) sc_are_things.nd rfl (Or.inl rfl)) pgs_nil))) (fun _ _ _ _ _ => pts_nil) (fun _ _ _ _ _ => (pe_cmpR (r := rLtT K) (op_ltT hr.units0) (pv 2) (pv 6) (nomark _)))) pa_nil))))))), fun D q => ?_⟩
  refine q_ifF (Evl.et_is (Evl.et_or (et_n (et_b (evd_isi (evd_var hd) k_tt))) fun _ => et_n (et_b ((evd_all (bs := r.map fun _ => true) ((evn_lcT (g := dT) (fun _ => true) (fun _ => .bool true) (evd_var hd) (show r.length < 100000 by omega) (fun _ _ => .bl _) (fun _ _ _ _ _ _ => et_yes)
    fun t _ v H1 e hv _ => (evd_and (evd_isi (evd_var hv) k_tt) fun _ => evd_op (evd_lenT (evd_var hv)) evd_int (rd_eqI (a := 2) (b := 2)))).d.to (by rw [filter_true, List.map_map]; rfl))).to (by simp)))) rfl) fun H1 e1 => ?_
  have hd1 := dp_ex e1 hd
  refine q_ifF (et_n (et_b ((evd_all (bs := r.map fun _ => true) ((evn_lc2T (g1 := fun t : Thing => dP t.1) (g2 := fun t => dE t.2) (fun _ => true) (fun _ => .bool true) (evd_var hd1) (show r.length < 100000 by omega) (fun _ _ => .bl _) (fun _ _ _ _ _ _ _ _ => et_yes)
    fun t ht v w H2 e h1 h2 _ => evd_and (a := true) (b := true) (evd_F t.1 trivial (eds_one (evd_var h1))) fun _ => evd_F t.2 (z2 t ht) (eds_one (evd_var h2))).d.to (by rw [filter_true, List.map_map]; rfl))).to (by simp)))) fun H2 e2 => ?_
  have hd2 := dp_ex e2 hd1
  have hp2 : Dp K H2 u (dP b) := dp_ex (e1.trans e2) hp
  refine q_asgN (evn_cat (evn_lst (eds_one (evd_var hp2)) (show 1 ≤ 100000 by decide)) (evn_lc2T (g1 := fun t : Thing => dP t.1) (g2 := fun t => dE t.2) (fun _ => true) (fun t => dP t.1) (evd_var hd2) (show r.length < 100000 by omega) (fun _ _ => imm_dP _) (fun _ _ _ _ _ _ _ _ => et_yes)
    fun t ht v w H2 e h1 h2 _ => evd_var h1) (by rw [filter_true, List.length_map]; show 1 + _ ≤ _; omega)) fun p H3 _ e3 l3 => ?_
  rw [filter_true] at l3
  have hl : Dp K H3 (.ref p) (.list (dP b :: (r.map (·.1)).map dP)) := by
    have := l3.dp
    rw [show [dP b] ++ r.map (fun t : Thing => dP t.1) = dP b :: (r.map (·.1)).map dP by rw [List.map_map]; rfl] at this
    exact this
  refine s_retD ((evd_all (bs := r.map fun _ => true) ((evn_lcZ (zs := (b :: r.map (·.1)).zip (r.map (·.1))) (xs := dP b :: (r.map (·.1)).map dP) (ys := (r.map (·.1)).map dP) (g1 := fun a => dP a.1) (g2 := fun a => dP a.2) (fun a => .bool (decide (Plt a.1 a.2))) (eds_cons (evd_var hl) (eds_one (evn_from1 (evd_var hl)).d))
    (by rw [List.length_zip, List.length_cons, List.length_map]; omega) (by simp only [List.length_zip, List.length_cons, List.length_map]) (fun k a hk => ?_) (fun _ _ => .bl _) fun a _ v w H4 e h1 h2 => evd_op (evd_var h1) (evd_var h2) rd_ltP).d.to ?_)).to (by simp)) fun v H4 e4 d => q v H4 (((e1.trans e2).trans e3).trans e4) d
  · obtain ⟨x, y⟩ := a
    obtain ⟨h1, h2⟩ := List.getElem?_zip_eq_some.mp hk
    refine ⟨?_, ?_⟩
    · rw [← List.map_cons, List.getElem?_map, h1]; rfl
    · rw [List.getElem?_map, h2]; rfl
  · have := congrArg (List.map PyData.bool) (chain_ok z3 z4)
    rw [List.map_map, List.map_map] at this
    rw [List.map_map]
    exact congrArg PyData.list this
end
end Wn

set_option Elab.async false
set_option linter.all false
set_option maxRecDepth 100000
set_option maxHeartbeats 4000000
/-! is_letter. -/
namespace Wn
open PySem PySem.Spec PyProof.Rows L2
open Zab hiding World Place Row
theorem atI_nat {α : Type} {xs : List α} {k : Nat} {a : α} (h : xs[k]? = some a) : atI xs (k : Int) = some a := by
  have hk : k < xs.length := (List.getElem?_eq_some_iff.mp h).1
  unfold atI ixN
  rw [if_pos (by omega), if_pos (by omega)]
  exact h
theorem pgs_star {X : Cx} {e : Expr} {p : Pos} {es : List Expr} {t : TG} {u : TGs} (h1 : PG X e t) (h2 : PGs X es u)
    (hs : (assignEach (.Starred e p :: es) X.env).map (·.2) = assign e X.env :: (assignEach es X.env).map (·.2) := by rfl) : PGs X (.Starred e p :: es) (gCons t u) := by
  refine ⟨fun pins s σ H vs us Q I r h => ?_⟩
  obtain ⟨v, vr, e1, h⟩ := h
  subst e1
  cases r with
  | cons r rr =>
    rw [hs]
    refine assignInOrder_cons (thn (h1.run pins s σ H _ _ _ I r h) fun _ s1 ⟨σ1, H1, I1, q1⟩ => ?_)
    exact h2.run pins s1 σ1 H1 _ _ Q I1 rr q1
section
variable {P : Program} {w : World} {K : PySem.W.Frag} {mg : Str → Option Value} {base : Heap}
abbrev spRest (K : PySem.W.Frag) (α : Type) (enc : α → List PyData) (pre : α → Prop) : Sp := spF K (fun a : α => [.list (enc a)]) pre (fun _ => .bool true)
abbrev spSeek (K : PySem.W.Frag) : Sp := spRest K (Nat × Place) (fun a => [dI a.1, dP a.2]) (fun _ => True)
theorem sc_is_seek : FnScope ["rest"] ["rest"] (defScope s_is_seek) := ⟨rfl, rfl, rfl, by decide +kernel, rfl, by decide +kernel, by decide +kernel⟩
theorem ok_is_seek (T : TX w K mg) : Cal P w K mg base 3 (He.ga K "is_seek") ["rest"] (spSeek K) [] := by
  have C_is_place := ok_is_place (P := P) (base := base) T
  have C_is_whole := ok_is_whole (P := P) (base := base) T
  refine cal_F T 11 (d := d_is_seek) rfl rfl rfl sc_is_seek (fun _ => rfl) (fun _ _ _ _ _ _ us hl => match us, hl with | [_], _ => rfl) fun cdv A outer s H vs E a hr _ hv => ?_
  obtain ⟨v, rfl, hd⟩ := dpA1 hv
  refine ⟨_, (pss_one (ps_ret (pe_and (pe_cmpR op_eq (pe_callB call_len (by rfl) T.b_len PySem.boot_len (pa_cons (pv 0) pa_nil)) pe_int (nomark _)) (pe_and (pe_k C_is_whole (hr.mono (by decide)) (by rfl) T.g_is_whole (pa_cons (pe_ix ix_list (pv 0) pe_int (fun _ _ => rfl)) pa_nil)) (pe_and (pe_cmpR op_ge (pe_ix ix_list (pv 0) pe_int (fun _ _ => rfl)) pe_int (nomark _)) (pe_one (pe_k C_is_place (hr.mono (by decide)) (by rfl) T.g_is_place (pa_cons (pe_ix ix_list (pv 0) pe_int (fun _ _ => rfl)) pa_nil)))))))), fun D q => ?_⟩
  refine s_retD ((evd_and (evd_op (evd_lenL (evd_var hd)) evd_int (rd_eqI (a := 2) (b := 2))) fun _ => evd_and (evd_F (a.1 : Int) trivial (eds_one (evd_op (evd_var hd) evd_int (rd_ixL rfl)))) fun _ => evd_and (evd_op (evd_op (evd_var hd) evd_int (rd_ixL (d := dI a.1) rfl)) evd_int (rd_I0 (z := .bool (decide ((0 : Int) ≤ (a.1 : Int)))) fun H => .bl _)) fun _ =>
    evd_F a.2 trivial (eds_one (evd_op (evd_var hd) evd_int (rd_ixL rfl)))).to ?_) q
  rw [decide_eq_true (show (0 : Int) ≤ (a.1 : Int) by omega)]
  rfl
abbrev spOne (K : PySem.W.Frag) : Sp := spRest K Place (fun a => [dP a]) (fun _ => True)
theorem sc_is_one_place : FnScope ["rest"] ["rest"] (defScope s_is_one_place) := ⟨rfl, rfl, rfl, by decide +kernel, rfl, by decide +kernel, by decide +kernel⟩
theorem ok_is_one_place (T : TX w K mg) : Cal P w K mg base 3 (He.ga K "is_one_place") ["rest"] (spOne K) [] := by
  have C_is_place := ok_is_place (P := P) (base := base) T
  refine cal_F T 12 (d := d_is_one_place) rfl rfl rfl sc_is_one_place (fun _ => rfl) (fun _ _ _ _ _ _ us hl => match us, hl with | [_], _ => rfl) fun cdv A outer s H vs E a hr _ hv => ?_
  obtain ⟨v, rfl, hd⟩ := dpA1 hv
  refine ⟨_, (pss_one (ps_ret (pe_and (pe_cmpR op_eq (pe_callB call_len (by rfl) T.b_len PySem.boot_len (pa_cons (pv 0) pa_nil)) pe_int (nomark _)) (pe_one (pe_k C_is_place (hr.mono (by decide)) (by rfl) T.g_is_place (pa_cons (pe_ix ix_list (pv 0) pe_int (fun _ _ => rfl)) pa_nil)))))), fun D q => ?_⟩
  exact s_retD ((evd_and (evd_op (evd_lenL (evd_var hd)) evd_int (rd_eqI (a := 1) (b := 1))) fun _ => evd_F a trivial (eds_one (evd_op (evd_var hd) evd_int (rd_ixL rfl)))).to rfl) q
abbrev spNone (K : PySem.W.Frag) : Sp := spRest K Unit (fun _ => []) (fun _ => True)
theorem sc_is_nothing : FnScope ["rest"] ["rest"] (defScope s_is_nothing) := ⟨rfl, rfl, rfl, by decide +kernel, rfl, by decide +kernel, by decide +kernel⟩
theorem ok_is_nothing (T : TX w K mg) : Cal P w K mg base 1 (He.ga K "is_nothing") ["rest"] (spNone K) [] := by
  refine cal_F T 13 (d := d_is_nothing) rfl rfl rfl sc_is_nothing (fun _ => rfl) (fun _ _ _ _ _ _ us hl => match us, hl with | [_], _ => rfl) fun cdv A outer s H vs E a hr _ hv => ?_
  obtain ⟨v, rfl, hd⟩ := dpA1 hv
  refine ⟨_, (pss_one (ps_ret (pe_cmpR op_eq (pe_callB call_len (by rfl) T.b_len PySem.boot_len (pa_cons (pv 0) pa_nil)) pe_int (nomark _)))), fun D q => ?_⟩
  exact s_retD (evd_op (evd_lenL (evd_var hd)) evd_int (rd_eqI (a := 0) (b := 0))) q
abbrev spSync (K : PySem.W.Frag) : Sp := spRest K (Nat × Place × Row × Place) (fun a => [.str (wayS a.1), dP a.2.1, dTs a.2.2.1, dP a.2.2.2]) (fun a => ThOk a.2.2.1 a.2.1)
theorem way_in : ∀ n : Nat, (["more", "cut", "all"] : List Str).contains (wayS n) = true
  | 0 => by decide +kernel
  | 1 => by decide +kernel
  | n + 2 => by
    show (["more", "cut", "all"] : List Str).contains "all" = true
    decide +kernel
theorem sc_is_sync : FnScope ["rest"] ["rest"] (defScope s_is_sync) := ⟨rfl, rfl, rfl, by decide +kernel, rfl, by decide +kernel, by decide +kernel⟩
theorem ok_is_sync (T : TX w K mg) : Cal P w K mg base 5 (He.ga K "is_sync") ["rest"] (spSync K) [] := by
  have C_is_place := ok_is_place (P := P) (base := base) T
  have C_are_things := ok_are_things (P := P) (base := base) T
  refine cal_F T 14 (d := d_is_sync) rfl rfl rfl sc_is_sync (fun _ => rfl) (fun _ _ _ _ _ _ us hl => match us, hl with | [_], _ => rfl) fun cdv A outer s H vs E a hr hz hv => ?_
  obtain ⟨v, rfl, hd⟩ := dpA1 hv
  obtain ⟨n, b, r, p⟩ := a
  refine ⟨_, (pss_cons (ps_if (PW.pt (pw_or (pt_cmpR op_ne (pe_callB call_len (by rfl) T.b_len PySem.boot_len (pa_cons (pv 0) pa_nil)) pe_int (nomark _)) (pw_or (pt_not (pt_val (pe_isi (by rfl) T.b_isinstance (pe_ix ix_list (pv 0) pe_int (fun _ _ => rfl)) (by rfl) T.b_str bt_str))) (pw_or1 (pt_cmpR op_notIn_seq (pe_ix ix_list (pv 0) pe_int (fun _ _ => rfl)) (pe_gR (by rfl) T.g_WAYS) (by rfl)))))) (pss_one (ps_ret pe_bl)) pss_nil)
    (pss_one (ps_ret (pe_and (pe_k C_is_place (hr.mono (by decide)) (by rfl) T.g_is_place (pa_cons (pe_ix ix_list (pv 0) pe_int (fun _ _ => rfl)) pa_nil)) (pe_and (pe_k C_is_place (hr.mono (by decide)) (by rfl) T.g_is_place (pa_cons (pe_ix ix_list (pv 0) pe_int (fun _ _ => rfl)) pa_nil)) (pe_one (pe_k C_are_things (hr.mono (by decide)) (by rfl) T.g_are_things (pa_cons (pe_ix ix_list (pv 0) pe_int (fun _ _ => rfl)) (pa_cons (pe_ix ix_list (pv 0) pe_int (fun _ _ => rfl)) pa_nil))))))))), fun D q => ?_⟩
  refine q_ifF (Evl.et_is (Evl.et_or (et_t (evd_op (evd_lenL (evd_var hd)) evd_int (rd_neI (a := 4) (b := 4)))) fun _ => Evl.et_or (et_n (et_b (evd_isi (evd_op (evd_var hd) evd_int (rd_ixL (d := .str (wayS n)) rfl)) k_ss))) fun _ =>
    et_t (evd_op (evd_op (evd_var hd) evd_int (rd_ixL (d := .str (wayS n)) rfl)) (evd_c (T.ways H)) (rd_inS (neg := true)))) (by rw [way_in]; rfl)) fun H1 e1 => ?_
  have hd := dp_ex e1 hd
  exact s_retD ((evd_and (evd_F b trivial (eds_one (evd_op (evd_var hd) evd_int (rd_ixL rfl)))) fun _ => evd_and (evd_F p trivial (eds_one (evd_op (evd_var hd) evd_int (rd_ixL rfl)))) fun _ => evd_F (r, b) hz (eds_cons (evd_op (evd_var hd) evd_int (rd_ixL rfl)) (eds_one (evd_op (evd_var hd) evd_int (rd_ixL rfl))))).to rfl) fun v H4 e4 d => q v H4 (e1.trans e4) d
abbrev spProp (K : PySem.W.Frag) : Sp := spRest K (Place × Place × Ent) (fun a => [dP a.1, dP a.2.1, dE a.2.2]) (fun a => Plt a.1 a.2.1 ∧ 1 ≤ a.2.2.2)
theorem sc_is_propose : FnScope ["rest"] ["rest"] (defScope s_is_propose) := ⟨rfl, rfl, rfl, by decide +kernel, rfl, by decide +kernel, by decide +kernel⟩
theorem ok_is_propose (T : TX w K mg) : Cal P w K mg base 4 (He.ga K "is_propose") ["rest"] (spProp K) [] := by
  have C_is_place := ok_is_place (P := P) (base := base) T
  have C_is_entry := ok_is_entry (P := P) (base := base) T
  refine cal_F T 15 (d := d_is_propose) rfl rfl rfl sc_is_propose (fun _ => rfl) (fun _ _ _ _ _ _ us hl => match us, hl with | [_], _ => rfl) fun cdv A outer s H vs E a hr hz hv => ?_
  obtain ⟨v, rfl, hd⟩ := dpA1 hv
  obtain ⟨p, p', e⟩ := a
  refine ⟨_, (pss_cons (ps_if (PW.pt (pw_or (pt_cmpR op_ne (pe_callB call_len (by rfl) T.b_len PySem.boot_len (pa_cons (pv 0) pa_nil)) pe_int (nomark _)) (pw_or (pt_not (pt_val (pe_k C_is_place (hr.mono (by decide)) (by rfl) T.g_is_place (pa_cons (pe_ix ix_list (pv 0) pe_int (fun _ _ => rfl)) pa_nil)))) (pw_or1 (pt_not (pt_val (pe_k C_is_place (hr.mono (by decide)) (by rfl) T.g_is_place (pa_cons (pe_ix ix_list (pv 0) pe_int (fun _ _ => rfl)) pa_nil)))))))) (pss_one (ps_ret pe_bl)) pss_nil)
    (pss_one (ps_ret (pe_and (pe_cmpR (op_ltT hr.units0) (pe_ix ix_list (pv 0) pe_int (fun _ _ => rfl)) (pe_ix ix_list (pv 0) pe_int (fun _ _ => rfl)) (nomark _)) (pe_one (pe_k C_is_entry (hr.mono (by decide)) (by rfl) T.g_is_entry (pa_cons (pe_ix ix_list (pv 0) pe_int (fun _ _ => rfl)) pa_nil))))))), fun D q => ?_⟩
  refine q_ifF (Evl.et_is (Evl.et_or (et_t (evd_op (evd_lenL (evd_var hd)) evd_int (rd_neI (a := 3) (b := 3)))) fun _ => Evl.et_or (et_n (et_b (evd_F p trivial (eds_one (evd_op (evd_var hd) evd_int (rd_ixL rfl)))))) fun _ =>
    et_n (et_b (evd_F p' trivial (eds_one (evd_op (evd_var hd) evd_int (rd_ixL rfl)))))) rfl) fun H1 e1 => ?_
  have hd := dp_ex e1 hd
  refine s_retD ((evd_and (evd_op (evd_op (evd_var hd) evd_int (rd_ixL (d := dP p) rfl)) (evd_op (evd_var hd) evd_int (rd_ixL (d := dP p') rfl)) rd_ltP) fun _ => evd_F e hz.2 (eds_one (evd_op (evd_var hd) evd_int (rd_ixL rfl)))).to ?_) fun v H4 e4 d => q v H4 (e1.trans e4) d
  rw [decide_eq_true hz.1]
  rfl
/-! ### a call of what a slot holds -/
def tCallHd (P : Program) (w : World) (K : PySem.W.Frag) (mg : Str → Option Value) (base : Heap) (k : Nat) (i : Nat) (ta : TA) : TE := fun σ H Q => ∃ f sp ps, σ[i]? = some (some (.ref f)) ∧ Cal P w K mg base k f ps sp [] ∧ ta σ H fun vs H1 => sp (vs ++ []) H1 Q E0
theorem pe_callHd {X : Cx} {k i : Nat} {x : Str} {p pos : Pos} {e : Expr} {es : List Expr} {t : TA} (hr : Room k X.A) (hN : X.N[i]? = some x) (hv : Vis X.env.scope x) (ha : PA X (e :: es) t)
    (hdb : (x == ("__debug__" : Str)) = false := by decide) (hcd : (x == ("__classdict__" : Str)) = false := by decide)
    (he : starEach (e :: es) X.env = (false, eval e X.env) :: starEach es X.env := by rfl) (hpl : (backTo pos (starEach es X.env)).any (·.1) = false := by rfl) : PE X (.Call (.Name x p) (e :: es) [] pos) (tCallHd X.prog X.w X.K X.mg X.base k i t) := by
  refine ⟨fun pins s σ H Q I h => ?_⟩
  obtain ⟨f, sp, ps, hs, c, ht⟩ := h
  obtain ⟨fd, ds, F, hb, hd⟩ := c.ex
  exact (pe_callL (i := i) (f := f) (sp := sp) (dvs := []) (E := E0) F hr hN hv c.kp hb hd pass0 ha hdb hcd he hpl).run pins s σ H Q I ⟨hs, ht⟩
theorem Cal.mono {f : Addr} {ps : List Str} {sp : Sp} {dvs : List V} {j k : Nat} (c : Cal P w K mg base j f ps sp dvs) (h : j ≤ k) : Cal P w K mg base k f ps sp dvs := by
  obtain ⟨fd, ds, F, hb, hd⟩ := c.ex
  exact ⟨⟨fd, ds, F.mono h, hb, hd⟩, c.kp⟩

section
variable {P : Program} {w : World} {K : PySem.W.Frag} {mg : Str → Option Value} {base : Heap}
/-- a letter that may come -/
structure LOk (l : Letter) : Prop where
  src : NmOk l.src
  dst : NmOk l.dst
  ne : l.src ≠ l.dst
  body : match l.body with
    | .sync _ base things _ => ThOk things base
    | .propose prior place en => Plt prior place ∧ 1 ≤ en.2
    | _ => True
theorem word_nm {n : Nat} (h : NmOk n) : wordOk (nS n) = true := by
  obtain ⟨h1, h2⟩ := h
  have : n ∈ (List.range 26).map (· + 97) := List.mem_map.mpr ⟨n - 97, List.mem_range.mpr (by omega), by omega⟩
  revert this
  revert n
  intro n h1 h2 h
  have e : ((List.range 26).map (· + 97)).all (fun n => wordOk (nS n)) = true := by decide +kernel
  exact List.all_eq_true.mp e n h
/-- what FORMS holds of a word, what it says of the rest -/
theorem form_of (T : TX w K mg) (l : Letter) (hl : LOk l) : ∃ f ps sp, KDct K w (He.ga K "FORMS") (wordS l.body) (.ref f) ∧ Cal P w K mg base 5 f ps sp [] ∧ ∀ (H : Hp) (v : V) (Q : VK), Dp K H v (.list (dB l.body)) → (∀ u H', Ex H H' → Dp K H' u (.bool true) → Q u H') → sp ([v] ++ []) H Q E0 := by
  have hk : ∀ {x g : Str}, (x, He.Dv.glo g) ∈ fv → KDct K w (He.ga K "FORMS") x (.ref (He.ga K g)) := fun {x g} hm => by
    obtain ⟨es, n, D⟩ := T.forms
    obtain ⟨u, h1, h2⟩ := T.form hm
    exact ⟨es, n, u, D.at_, D.lit, h1, h2⟩
  obtain ⟨src, dst, e, body⟩ := l
  have hb := hl.body
  cases body with
  | seek ep la => exact ⟨_, _, _, hk (g := "is_seek") (by simp [fv, wordS]), (ok_is_seek T).mono (by decide), fun H v Q d q => ⟨(ep, la), trivial, .cons d .nil, q⟩⟩
  | promise la => exact ⟨_, _, _, hk (g := "is_one_place") (by simp [fv, wordS]), (ok_is_one_place T).mono (by decide), fun H v Q d q => ⟨la, trivial, .cons d .nil, q⟩⟩
  | lead => exact ⟨_, _, _, hk (g := "is_nothing") (by simp [fv, wordS]), (ok_is_nothing T).mono (by decide), fun H v Q d q => ⟨(), trivial, .cons d .nil, q⟩⟩
  | sync wy b th dn => exact ⟨_, _, _, hk (g := "is_sync") (by simp [fv, wordS]), (ok_is_sync T).mono (by decide), fun H v Q d q => ⟨(wy, b, th, dn), hb, .cons d .nil, q⟩⟩
  | lack => exact ⟨_, _, _, hk (g := "is_nothing") (by simp [fv, wordS]), (ok_is_nothing T).mono (by decide), fun H v Q d q => ⟨(), trivial, .cons d .nil, q⟩⟩
  | synced p => exact ⟨_, _, _, hk (g := "is_one_place") (by simp [fv, wordS]), (ok_is_one_place T).mono (by decide), fun H v Q d q => ⟨p, trivial, .cons d .nil, q⟩⟩
  | propose pr pl en => exact ⟨_, _, _, hk (g := "is_propose") (by simp [fv, wordS]), (ok_is_propose T).mono (by decide), fun H v Q d q => ⟨(pr, pl, en), hb, .cons d .nil, q⟩⟩
  | took p => exact ⟨_, _, _, hk (g := "is_one_place") (by simp [fv, wordS]), (ok_is_one_place T).mono (by decide), fun H v Q d q => ⟨p, trivial, .cons d .nil, q⟩⟩
  | done p => exact ⟨_, _, _, hk (g := "is_one_place") (by simp [fv, wordS]), (ok_is_one_place T).mono (by decide), fun H v Q d q => ⟨p, trivial, .cons d .nil, q⟩⟩
theorem dB_len (b : Body) : (dB b).length ≤ 4 := by cases b <;> simp [dB]
theorem c_rgl {r : R2} {ta tb : TE} {σ : L2.St} {H : Hp} {k : VK} (h : ta σ H fun x H1 => tb σ H1 fun y H2 => r x y H2 k) : tOp r ta tb σ H k := h
theorem g_letter {i1 i2 i3 i4 i5 : Nat} {l : Letter} {σ : L2.St} {H : Hp} {v : V} {k : L2.St → Hp → Prop} (hv : Dp K H v (dL l))
    (h : ∀ p H', H p = none → Ex H H' → LstAt K H' p (dB l.body) → k (((((σ.set i1 (some (.str (wordS l.body)))).set i2 (some (.str (nS l.src)))).set i3 (some (.str (nS l.dst)))).set i4 (some (.int (l.e : Int)))).set i5 (some (.ref p))) H') :
    gStar K 4 (gCons (gName i1) (gCons (gName i2) (gCons (gName i3) (gCons (gName i4) (gCons (gName i5) gNil))))) v σ H k := by
  obtain ⟨a, xs, rfl, s1, s2⟩ := dp_tup hv
  have hlen := dpA_len s2
  obtain ⟨x1, r1, rfl, d1, t1⟩ := dpA_uncons s2
  obtain ⟨x2, r2, rfl, d2, t2⟩ := dpA_uncons t1
  obtain ⟨x3, r3, rfl, d3, t3⟩ := dpA_uncons t2
  obtain ⟨x4, r4, rfl, d4, t4⟩ := dpA_uncons t3
  have h1 := dp_str d1
  have h2 := dp_str d2
  have h3 := dp_str d3
  have h4 := dp_int d4
  subst h1 h2 h3 h4
  have hb := dB_len l.body
  have hr := dpA_len t4
  refine ⟨a, _, rfl, s1, by show 4 ≤ r4.length + 4; omega, by show r4.length + 4 ≤ 16384; omega, fun p hp => ?_⟩
  have e := Evl.Ex.new (o := HO.lst r4) hp
  exact ⟨_, _, rfl, _, _, rfl, _, _, rfl, _, _, rfl, _, _, rfl, rfl, h p _ hp e ⟨r4, upd_same, dpA_ex e t4⟩⟩
abbrev spLetter (K : PySem.W.Frag) : Sp := spF K (fun l : Letter => [dL l]) LOk (fun _ => .bool true)
theorem dL_len (l : Letter) : 4 ≤ (.str (wordS l.body) :: dN l.src :: dN l.dst :: dI l.e :: dB l.body : List PyData).length := by
  show 4 ≤ (dB l.body).length + 4
  omega
theorem sc_is_letter : FnScope ["thing", "word", "sender", "to", "epoch", "rest", "looks"] ["thing"] (defScope s_is_letter) := ⟨rfl, rfl, rfl, by decide +kernel, rfl, by decide +kernel, by decide +kernel⟩
theorem ok_is_letter (T : TX w K mg) : Cal P w K mg base 6 (He.ga K "is_letter") ["thing"] (spLetter K) [] := by
  have C_is_word := ok_is_word (P := P) (base := base) T
  have C_is_whole := ok_is_whole (P := P) (base := base) T
  obtain ⟨Fes, Fn, T_forms⟩ := T.forms
  refine cal_F T 16 (d := d_is_letter) rfl rfl rfl sc_is_letter (fun _ => rfl) (fun _ _ _ _ _ _ us hl => match us, hl with | [_], _ => rfl) fun cdv A outer s H vs E l hr hz hv => ?_
  obtain ⟨v, rfl, hd⟩ := dpA1 hv
  have hd : Dp K H v (.tuple (.str (wordS l.body) :: dN l.src :: dN l.dst :: dI l.e :: dB l.body)) := hd
  obtain ⟨ff, fps, fsp, g1, g2, g3⟩ := form_of (P := P) (base := base) T l hz
  have hn : ∃ u, PySem.W.nsIn K (He.ga K "FORMS") (wordS l.body) = some (some u) := by
    obtain ⟨_, _, u, _, _, h, _⟩ := g1
    exact ⟨u, h⟩
  obtain ⟨fu, hn⟩ := hn
  refine ⟨_, (pss_cons (ps_if (PW.pt (pw_or (pt_not (pt_val (pe_isi (by rfl) T.b_isinstance (pv 0) (by rfl) T.b_tuple bt_tuple))) (pw_or (pt_cmpR op_lt (pe_callB call_len (by rfl) T.b_len PySem.boot_len (pa_cons (pv 0) pa_nil)) pe_int (nomark _)) (pw_or (pt_not (pt_val (pe_isi (by rfl) T.b_isinstance (pe_ix ix_tup (pv 0) pe_int (fun _ _ => rfl)) (by rfl) T.b_str bt_str))) (pw_or1 (pt_cmpR (op_notIn_kd T_forms) (pe_ix ix_tup (pv 0) pe_int (fun _ _ => rfl)) (pe_gR (by rfl) T.g_FORMS) (by rfl))))))) (pss_one (ps_ret pe_bl)) pss_nil)
    (pss_cons (ps_asg (pv 0) (pg_star rfl (pgs_cons (pg_name (i := 1) sc_is_letter.nd rfl (Or.inl rfl)) (pgs_cons (pg_name (i := 2) sc_is_letter.nd rfl (Or.inl rfl)) (pgs_cons (pg_name (i := 3) sc_is_letter.nd rfl (Or.inl rfl)) (pgs_cons (pg_name (i := 4) sc_is_letter.nd rfl (Or.inl rfl)) (pgs_star (pg_name (i := 5) sc_is_letter.nd rfl (Or.inl rfl)) pgs_nil)))))))
    (pss_cons (ps_if (PW.pt (pw_or (pt_not (pt_val (pe_k C_is_word (hr.mono (by decide)) (by rfl) T.g_is_word (pa_cons (pv 2) pa_nil)))) (pw_or (pt_not (pt_val (pe_k C_is_word (hr.mono (by decide)) (by rfl) T.g_is_word (pa_cons (pv 3) pa_nil)))) (pw_or (pt_cmpR op_eq (pv 2) (pv 3) (nomark _)) (pw_or (pt_not (pt_val (pe_k C_is_whole (hr.mono (by decide)) (by rfl) T.g_is_whole (pa_cons (pv 4) pa_nil)))) (pw_or1 (pt_cmpR op_lt (pv 4) pe_int (nomark _)))))))) (pss_one (ps_ret pe_bl)) pss_nil)
    (pss_cons (ps_asg (pe_ix ix_kdict (pe_gR (by rfl) T.g_FORMS) (pv 1) (fun _ _ => rfl)) (pg_name (i := 6) sc_is_letter.nd rfl (Or.inl rfl)))
    (pss_one (ps_ret (pe_callHd (k := 5) (i := 6) (hr.mono (by decide)) rfl (Or.inl rfl) (pa_cons (pv 5) pa_nil)))))))), fun D q => ?_⟩
  refine q_ifF (Evl.et_is (Evl.et_or (et_n (et_b (evd_isi (evd_var hd) k_tt))) fun _ => Evl.et_or (b := false) (et_to (et_t (evd_op (evd_lenT (evd_var hd)) evd_int (rd_I0 (z := .bool (decide ((((.str (wordS l.body) :: dN l.src :: dN l.dst :: dI l.e :: dB l.body : List PyData).length : Nat) : Int) < 4))) fun H => .bl _))) (b' := false) (decide_eq_false (by have := dL_len l; omega))) fun _ =>
    Evl.et_or (a := false) (b := false) (et_n (et_b (evd_isi (evd_op (evd_var hd) evd_int (rd_ixT (d := .str (wordS l.body)) (atI_nat (k := 0) rfl))) k_ss))) fun _ => Evl.et_test (Evl.ev_op (x := .str (wordS l.body)) (y := .ref (He.ga K "FORMS")) (z := .bl false) (ev_str (evd_op (evd_var hd) evd_int (rd_ixT (d := .str (wordS l.body)) (atI_nat (k := 0) rfl)))) Evl.ev_c fun H1 _ Q k => ⟨_, _, rfl, rfl, hn, k H1 (Evl.Ex.refl _)⟩)) rfl) fun H1 e1 => ?_
  have hd := dp_ex e1 hd
  refine c_asg (c_var (g_letter hd fun p H2 hp e2 lp => ?_))
  simp only [L2.start, List.map_cons, List.map_nil, List.length_cons, List.length_nil, List.replicate_succ, List.replicate_zero, List.cons_append, List.nil_append, List.set_cons_zero, List.set_cons_succ, Nat.reduceAdd, Nat.reduceSub]
  refine q_ifF (Evl.et_is (Evl.et_or (et_n (et_b (K := K) (evd_F (nS l.src) (word_nm hz.src) (eds_one (evd_var (.str _)))))) fun _ => Evl.et_or (et_n (et_b (K := K) (evd_F (nS l.dst) (word_nm hz.dst) (eds_one (evd_var (.str _)))))) fun _ => Evl.et_or (a := false) (b := false) (et_to (et_t (K := K) (evd_op (evd_var (.str _)) (evd_var (.str _)) (rd_eqS (a := nS l.src) (b := nS l.dst)))) (b' := false) (decide_eq_false fun z => hz.ne (nS_inj.mp z))) fun _ =>
    Evl.et_or (a := false) (b := false) (et_n (et_b (K := K) (evd_F (l.e : Int) trivial (eds_one (evd_var (.int _)))))) fun _ => et_to (et_t (K := K) (evd_op (evd_var (i := 4) (.int (l.e : Int))) evd_int (rd_I0 (z := .bool (decide ((l.e : Int) < 0))) fun H => .bl _))) (b' := false) (decide_eq_false (by omega))) rfl) fun H3 e3 => ?_
  refine c_asg (c_rgl (c_c (c_var ⟨_, _, _, rfl, rfl, g1, ?_⟩)))
  refine c_ret ⟨_, fsp, fps, rfl, g2, c_cons (c_var (c_nil ?_))⟩
  exact g3 H3 _ _ (lp.ex e3).dp fun u H4 e4 d => q u H4 (((e1.trans e2).trans e3).trans e4) d
end
end
end Wn

set_option Elab.async false
set_option linter.all false
set_option maxRecDepth 100000
set_option maxHeartbeats 4000000
/-! state_of. -/
namespace Wn
open PySem PySem.Spec PyProof.Rows L2
open Zab hiding World Place Row
section
variable {P : Program} {w : World} {K : PySem.W.Frag} {mg : Str → Option Value} {base : Heap}
def spStateOf (K : PySem.W.Frag) : Sp := fun vs H Q _ => ∃ v, ∃ r : Row, vs = [v] ∧ Dp K H v (dR r) ∧ (∀ t ∈ r, 1 ≤ t.2.2) ∧ ∀ a n s H', Ex H H' → StNew K H H' a n s → Q (.ref a) H'
theorem StNew.back {H H1 H2 : Hp} {a n s : Addr} (h : StNew K H1 H2 a n s) (e : Ex H H1) : StNew K H H2 a n s := ⟨h.t, h.kn, h.ks, Evl.fresh_back e h.hn, Evl.fresh_back e h.hs, h.ne⟩
theorem StNew.on {H H1 H2 : Hp} {a n s : Addr} (h : StNew K H H1 a n s) (e : Ex H1 H2) : StNew K H H2 a n s := by
  obtain ⟨t, ⟨kn, k1, k2⟩, ⟨ks, k3, k4⟩, a1, a2, a3⟩ := h
  exact ⟨Evl.ex_t e t, ⟨kn, e _ _ k1, k2⟩, ⟨ks, e _ _ k3, k4.keep (ex_tups e) (ex_frz e)⟩, a1, a2, a3⟩
/-- a triple is unpacked -/
theorem g_three {i j k : Nat} {r : Addr} {x y z : V} {H : Hp} {σ : L2.St} {q : L2.St → Hp → Prop} (hr : SqT K H r [x, y, z]) (h : q (((σ.set i (some x)).set j (some y)).set k (some z)) H) : gTup K 3 (gCons (gName i) (gCons (gName j) (gCons (gName k) gNil))) (.ref r) σ H q :=
  ⟨r, _, rfl, hr, rfl, _, _, rfl, _, _, rfl, _, _, rfl, rfl, h⟩
theorem c_callN {n m : Nat} {sp : Sp} {gV : List V → List V → List V} {E : XK} {t tk : TA} {σ : L2.St} {H : Hp} {Q : VK} (h : t σ H fun vs H1 => tk σ H1 fun zs H2 => vs.length = n ∧ zs.length = m ∧ sp (gV vs zs) H2 Q E) : tCallN n m sp gV E t tk σ H Q := h
theorem c_call0 {sp : Sp} {E : XK} {σ : L2.St} {H : Hp} {Q : VK} (h : sp [] H Q E) : tCall sp [] E tNil σ H Q := h
theorem c_for {wi : TI} {g : TG} {tb : TS} {tz : TS} {D : Ends} {σ : L2.St} {H : Hp} (h : tFor wi g tb { D with nx := tz D } σ H) : tSeq (tFor wi g tb) tz D σ H := h
theorem sc_state_of : FnScope ["row", "state", "place", "entry", "answer", "events"] ["row"] (defScope s_state_of) := ⟨rfl, rfl, rfl, by decide +kernel, rfl, by decide +kernel, by decide +kernel⟩
theorem ok_state_of (T : TX w K mg) : Cal P w K mg base 5 (He.ga K "state_of") ["row"] (spStateOf K) [] := by
  have C_first_state := ok_first_state (P := P) (base := base) T
  have C_done := ok_done (P := P) (base := base) T
  refine cal_mk T 17 (d := d_state_of) rfl rfl rfl sc_state_of (fun vs H Q E h => by obtain ⟨v, r, h, _⟩ := h; rw [h]; rfl) (fun _ _ _ _ _ _ us hl => match us, hl with | [_], _ => rfl) fun cdv A outer s H vs Q E hr h => ?_
  obtain ⟨v, r, rfl, hd, hst, q⟩ := h
  refine ⟨_, (pss_cons (ps_asg (pe_k0 C_first_state (hr.mono (by decide)) (by rfl) T.g_first_state) (pg_name (i := 1) sc_state_of.nd rfl (Or.inl rfl)))
    (pss_cons (ps_for PassesOwn.never rfl (pi_list (pv 0)) (pg_tup rfl (pgs_cons (pg_name (i := 2) sc_state_of.nd rfl (Or.inl rfl)) (pgs_cons (pg_name (i := 3) sc_state_of.nd rfl (Or.inl rfl)) pgs_nil))) (pss_one (ps_asg (pe_kN C_done (hr.mono (by decide)) (by rfl) T.g_done_states (pa_cons (pv 1) (pa_cons (pv 3) pa_nil)) (pk_cons (pv 2) pk_nil)) (pg_tup rfl (pgs_cons (pg_name (i := 1) sc_state_of.nd rfl (Or.inl rfl)) (pgs_cons (pg_name (i := 4) sc_state_of.nd rfl (Or.inl rfl)) (pgs_cons (pg_name (i := 5) sc_state_of.nd rfl (Or.inl rfl)) pgs_nil)))))))
    (pss_one (ps_ret (pv 1))))), ?_⟩
  refine c_asg (c_call0 ⟨rfl, fun a n s H1 e1 S1 => ?_⟩)
  simp only [L2.start, List.map_cons, List.map_nil, List.length_cons, List.length_nil, List.replicate_succ, List.replicate_zero, List.cons_append, List.nil_append, List.set_cons_zero, List.set_cons_succ, Nat.reduceAdd, Nat.reduceSub]
  obtain ⟨ar, ws, rfl, s1, s2⟩ := dp_lst hd
  refine c_for ⟨_, rfl, ar, rfl, ⟨ws, Evl.ex_l e1 s1⟩, for_list (xs := ws) (fun i σ H' => ∃ a n s x y z u, σ = [some (.ref ar), some (.ref a), x, y, z, u] ∧ Ex H H' ∧ StNew K H H' a n s) ⟨a, n, s, _, _, _, _, rfl, e1, S1⟩ ?_ ?_ ?_⟩
  · rintro i σ H' _ ⟨a, n, s, x, y, z, u, rfl, e, S⟩
    exact Evl.ex_l e s1
  · rintro i x σ H' hx ⟨a, n, s, x0, y, z, u, rfl, e, S⟩
    obtain ⟨d, hd1, hxd⟩ := dpA_get' s2 hx
    rw [List.getElem?_map] at hd1
    obtain ⟨t, ht, rfl⟩ := Option.map_eq_some_iff.mp hd1
    have hm := List.mem_of_getElem? ht
    refine g_pair (a := dP t.1) (b := dE t.2) (dp_ex e hxd) fun y1 y2 h1 h2 => ?_
    simp only [L2.start, List.map_cons, List.map_nil, List.length_cons, List.length_nil, List.replicate_succ, List.replicate_zero, List.cons_append, List.nil_append, List.set_cons_zero, List.set_cons_succ, Nat.reduceAdd, Nat.reduceSub]
    obtain ⟨tt, ⟨kn, k1, k2⟩, ⟨ks, k3, k4⟩, a1, a2, a3⟩ := S
    refine c_callN (c_cons (c_var (c_cons (c_var (c_nil (c_cons (c_var (c_nil ⟨rfl, rfl, a, n, s, y2, y1, kn, ks, t.2, t.1, rfl, tt, k1, k2, k3, k4, hst t hm, h2, h1, fun r' a' n' s' x' y' H2 e2 S2 g2 => ?_⟩)))))))) 
    refine g_three g2 ?_
    simp only [L2.start, List.map_cons, List.map_nil, List.length_cons, List.length_nil, List.replicate_succ, List.replicate_zero, List.cons_append, List.nil_append, List.set_cons_zero, List.set_cons_succ, Nat.reduceAdd, Nat.reduceSub]
    exact ⟨a', n', s', _, _, _, _, rfl, e.trans e2, S2.back e⟩
  · rintro σ H' ⟨a, n, s, x, y, z, u, rfl, e, S⟩
    exact c_ret (c_var (q a n s H' e S))
end
end Wn

set_option Elab.async false
set_option linter.all false
set_option maxRecDepth 100000
set_option maxHeartbeats 4000000
/-! A House in a heap (3): fields, stores in place, promises of methods. -/
namespace Wn
open PySem PySem.Spec PyProof.Rows L2
open Zab hiding World Place Row
/-- sizes the walk asks for -/
structure WH (h : House) : Prop where
  row : h.row.length ≤ 2000
  ent : ∀ t ∈ h.row, 1 ≤ t.2.2
  fresh : h.fresh ≤ 16000000
  prom : h.promises.length ≤ 100
  tak : h.taken.length ≤ 100
  mem : h.mem.length ≤ 100
section
variable {K : PySem.W.Frag} {σ : L2.St} {H H' : Hp} {x : HX} {h : House} {te ta : TE} {tA : TA}
/-! ### what an attribute is -/
theorem ev_f (T : Cls K (CH K)) {f : Str} {v : V} (na : NoAttr K (CH K) f) (i : HAt K H x h) (l : (hfs x h).lookup f = some v) (h0 : σ[0]? = some (some (.ref x.p)) := by rfl) : Evl.Ev (tFld K (tVar 0) f) σ H v := ev_fld (ev_var h0) i.ob T na l
section
variable (c : Cls K (CH K)) (i : HAt K H x h)
include c i
theorem evd_name (na : NoAttr K (CH K) "own_name") (h0 : σ[0]? = some (some (.ref x.p)) := by rfl) : EvD K (tFld K (tVar 0) "own_name") σ H (dN h.nm) := evd_ev (ev_f c na i l_name h0) (.str _)
theorem evd_members (na : NoAttr K (CH K) "own_members") (h0 : σ[0]? = some (some (.ref x.p)) := by rfl) : EvD K (tFld K (tVar 0) "own_members") σ H (.tuple (h.mem.map dN)) := evd_ev (ev_f c na i l_members h0) (.tup i.r.mem (by
  generalize h.mem = M
  induction M with
  | nil => exact .nil
  | cons a r ih => exact .cons (.str _) ih))
theorem evd_looks (na : NoAttr K (CH K) "own_looks") (h0 : σ[0]? = some (some (.ref x.p)) := by rfl) : EvD K (tFld K (tVar 0) "own_looks") σ H (.str "all") := evd_ev (ev_f c na i l_looks h0) (.str _)
theorem evd_promised (na : NoAttr K (CH K) "own_promised") (h0 : σ[0]? = some (some (.ref x.p)) := by rfl) : EvD K (tFld K (tVar 0) "own_promised") σ H (dI h.promised) := evd_ev (ev_f c na i l_promised h0) (.int _)
theorem evd_epoch (na : NoAttr K (CH K) "own_epoch") (h0 : σ[0]? = some (some (.ref x.p)) := by rfl) : EvD K (tFld K (tVar 0) "own_epoch") σ H (dI h.epoch) := evd_ev (ev_f c na i l_epoch h0) (.int _)
theorem evd_row (na : NoAttr K (CH K) "own_row") (h0 : σ[0]? = some (some (.ref x.p)) := by rfl) : EvD K (tFld K (tVar 0) "own_row") σ H (dR h.row) := evd_ev (ev_f c na i l_row h0) i.r.row.dp
theorem evd_done (na : NoAttr K (CH K) "own_done") (h0 : σ[0]? = some (some (.ref x.p)) := by rfl) : EvD K (tFld K (tVar 0) "own_done") σ H (dP h.done) := evd_ev (ev_f c na i l_done h0) i.r.done
theorem evd_role (na : NoAttr K (CH K) "own_role") (h0 : σ[0]? = some (some (.ref x.p)) := by rfl) : EvD K (tFld K (tVar 0) "own_role") σ H (.str (roleS h.role)) := evd_ev (ev_f c na i l_role h0) (.str _)
theorem evd_clock (na : NoAttr K (CH K) "own_clock") (h0 : σ[0]? = some (some (.ref x.p)) := by rfl) : EvD K (tFld K (tVar 0) "own_clock") σ H (dI h.clock) := evd_ev (ev_f c na i l_clock h0) (.int _)
theorem ev_promises (na : NoAttr K (CH K) "promises") (h0 : σ[0]? = some (some (.ref x.p)) := by rfl) : Evl.Ev (tFld K (tVar 0) "promises") σ H (.ref x.prom) := ev_f c na i l_promises h0
theorem ev_taken (na : NoAttr K (CH K) "taken") (h0 : σ[0]? = some (some (.ref x.p)) := by rfl) : Evl.Ev (tFld K (tVar 0) "taken") σ H (.ref x.tak) := ev_f c na i l_taken h0
end
/-- o in d -/
theorem evd_din {kvs : List (Key × V)} {d : Dic} {n : Nat} {a : Addr} (hk : EvD K te σ H (dN n)) (hd : Evl.Ev ta σ H (.ref a)) (ha : H a = some (.dK kvs)) (hr : DRep K H kvs d) : EvD K (tDIn te ta) σ H (.bool (dhas d n)) := fun H1 e Q q =>
  hk H1 e _ fun v H2 e2 dv => hd H2 (e.trans e2) _ fun H3 e3 => by
    rw [dp_str dv]
    refine ⟨a, _, rfl, DGet.k (k := Sum.inr (nS n)) ((e.trans e2).trans e3 _ _ ha), ?_⟩
    have : (valV kvs (Sum.inr (nS n))).isSome = dhas d n := by
      rcases drep_val n hr with ⟨h1, h2⟩ | ⟨p, v, h1, h2, _⟩
      · unfold dhas; rw [h1, h2]; rfl
      · unfold dhas; rw [h1, h2]; rfl
    rw [this]
    exact q _ H3 (e2.trans e3) (.bl _)
theorem evd_dnotin {kvs : List (Key × V)} {d : Dic} {n : Nat} {a : Addr} (hk : EvD K te σ H (dN n)) (hd : Evl.Ev ta σ H (.ref a)) (ha : H a = some (.dK kvs)) (hr : DRep K H kvs d) : EvD K (tDNotIn te ta) σ H (.bool (!dhas d n)) := fun H1 e Q q =>
  hk H1 e _ fun v H2 e2 dv => hd H2 (e.trans e2) _ fun H3 e3 => by
    rw [dp_str dv]
    refine ⟨a, _, rfl, DGet.k (k := Sum.inr (nS n)) ((e.trans e2).trans e3 _ _ ha), ?_⟩
    have : (valV kvs (Sum.inr (nS n))).isSome = dhas d n := by
      rcases drep_val n hr with ⟨h1, h2⟩ | ⟨p, v, h1, h2, _⟩
      · unfold dhas; rw [h1, h2]; rfl
      · unfold dhas; rw [h1, h2]; rfl
    rw [this]
    exact q _ H3 (e2.trans e3) (.bl _)
/-- d[o] -/
theorem evd_dget {kvs : List (Key × V)} {d : Dic} {n : Nat} {a : Addr} {p : Place} (hk : EvD K te σ H (dN n)) (hd : Evl.Ev ta σ H (.ref a)) (ha : H a = some (.dK kvs)) (hr : DRep K H kvs d) (hp : dget d n = some p) : EvD K (tDGet ta te) σ H (dP p) := fun H1 e Q q =>
  hd H1 e _ fun H2 e2 => hk H2 (e.trans e2) _ fun v H3 e3 dv => by
    rw [dp_str dv]
    rcases drep_val n hr with ⟨h1, h2⟩ | ⟨p', v', h1, h2, h3⟩
    · rw [h1] at hp; cases hp
    · rw [h1] at hp
      cases hp
      refine ⟨a, v', rfl, by rw [← h2]; exact DGet.k (k := Sum.inr (nS n)) ((e.trans e2).trans e3 _ _ ha), q _ H3 (e2.trans e3) (dp_ex ((e.trans e2).trans e3) h3)⟩
/-! ### stores in place -/
theorem ne3 {a b : Addr} {o u : HO} (ha : H a = some o) (hb : H b = some u) (h : o ≠ u) : a ≠ b := ne_of ha hb h
theorem HAt.setProm {kvs : List (Key × V)} {d : Dic} (i : HAt K H x h) (hd : DRep K H kvs d) : HAt K (L2.upd H x.prom (.dK kvs)) x { h with promises := d } ∧ To x H x (L2.upd H x.prom (.dK kvs)) := by
  obtain ⟨k0, a0, d0⟩ := i.r.prom
  obtain ⟨n1, n2, n3, n4, n5, n6, n7⟩ := i.np
  obtain ⟨⟨m1, m2, m3, m4⟩, ⟨m5, m6, m7⟩, ⟨m8, m9⟩, m10⟩ := nd5.mp i.r.nd
  have tu : Tups H (L2.upd H x.prom (.dK kvs)) := fun b xs hb => by rw [upd_ne (ne_of hb a0 (by intro z; cases z))]; exact hb
  have fr : Frz H (L2.upd H x.prom (.dK kvs)) := fun b o u hb => by rw [upd_ne (ne_of hb a0 (by intro z; cases z))]; exact hb
  have L : ∀ {b : Addr} {xs : List V}, H b = some (.lst xs) → L2.upd H x.prom (.dK kvs) b = some (.lst xs) := fun {b xs} hb => by rw [upd_ne (ne_of hb a0 (by intro z; cases z))]; exact hb
  refine ⟨⟨by rw [upd_ne n5.symm]; exact i.ob, ?_⟩, ⟨fun b o hb n => by rw [upd_ne (fun z => n (by rw [z]; simp [Own]))]; exact hb, fun _ q => .inl q, rfl, rfl, live_upd⟩⟩
  obtain ⟨r0, b1, b2⟩ := i.r.row
  obtain ⟨c0, c1, c2⟩ := i.r.stn
  obtain ⟨s0, s1, s2⟩ := i.r.sts
  obtain ⟨f0, f1, f2⟩ := i.r.fresh
  obtain ⟨t0, t1, t2⟩ := i.r.tak
  exact ⟨sqT_keep tu fr i.r.mem, ⟨r0, L b1, dpA_keep tu fr (imm_map imm_dT _) b2⟩, dp_keep tu fr (imm_dP _) i.r.done, sqT_keep tu fr i.r.st, ⟨c0, by rw [upd_ne m2]; exact c1, c2⟩, ⟨s0, by rw [upd_ne m5]; exact s1, s2.keep tu fr⟩, ⟨f0, L f1, f2⟩,
    ⟨kvs, upd_same, drep_keep tu fr hd⟩, ⟨t0, by rw [upd_ne m8.symm]; exact t1, drep_keep tu fr t2⟩, by rw [upd_ne m9.symm]; exact i.r.heard, i.r.rf, i.r.nd⟩
theorem HAt.setTak {kvs : List (Key × V)} {d : Dic} (i : HAt K H x h) (hd : DRep K H kvs d) : HAt K (L2.upd H x.tak (.dK kvs)) x { h with taken := d } ∧ To x H x (L2.upd H x.tak (.dK kvs)) := by
  obtain ⟨k0, a0, d0⟩ := i.r.tak
  obtain ⟨n1, n2, n3, n4, n5, n6, n7⟩ := i.np
  obtain ⟨⟨m1, m2, m3, m4⟩, ⟨m5, m6, m7⟩, ⟨m8, m9⟩, m10⟩ := nd5.mp i.r.nd
  have tu : Tups H (L2.upd H x.tak (.dK kvs)) := fun b xs hb => by rw [upd_ne (ne_of hb a0 (by intro z; cases z))]; exact hb
  have fr : Frz H (L2.upd H x.tak (.dK kvs)) := fun b o u hb => by rw [upd_ne (ne_of hb a0 (by intro z; cases z))]; exact hb
  have L : ∀ {b : Addr} {xs : List V}, H b = some (.lst xs) → L2.upd H x.tak (.dK kvs) b = some (.lst xs) := fun {b xs} hb => by rw [upd_ne (ne_of hb a0 (by intro z; cases z))]; exact hb
  refine ⟨⟨by rw [upd_ne n6.symm]; exact i.ob, ?_⟩, ⟨fun b o hb n => by rw [upd_ne (fun z => n (by rw [z]; simp [Own]))]; exact hb, fun _ q => .inl q, rfl, rfl, live_upd⟩⟩
  obtain ⟨r0, b1, b2⟩ := i.r.row
  obtain ⟨c0, c1, c2⟩ := i.r.stn
  obtain ⟨s0, s1, s2⟩ := i.r.sts
  obtain ⟨f0, f1, f2⟩ := i.r.fresh
  obtain ⟨t0, t1, t2⟩ := i.r.prom
  exact ⟨sqT_keep tu fr i.r.mem, ⟨r0, L b1, dpA_keep tu fr (imm_map imm_dT _) b2⟩, dp_keep tu fr (imm_dP _) i.r.done, sqT_keep tu fr i.r.st, ⟨c0, by rw [upd_ne m3]; exact c1, c2⟩, ⟨s0, by rw [upd_ne m6]; exact s1, s2.keep tu fr⟩, ⟨f0, L f1, f2⟩,
    ⟨t0, by rw [upd_ne m8]; exact t1, drep_keep tu fr t2⟩, ⟨kvs, upd_same, drep_keep tu fr hd⟩, by rw [upd_ne m10.symm]; exact i.r.heard, i.r.rf, i.r.nd⟩
theorem HAt.setRow {ws : List V} {r : Row} (i : HAt K H x h) (hd : DpAll K H ws (r.map dT)) : HAt K (L2.upd H x.row (.lst ws)) x { h with row := r } ∧ To x H x (L2.upd H x.row (.lst ws)) := by
  obtain ⟨k0, a0, d0⟩ := i.r.row
  obtain ⟨n1, n2, n3, n4, n5, n6, n7⟩ := i.np
  have tu : Tups H (L2.upd H x.row (.lst ws)) := fun b xs hb => by rw [upd_ne (ne_of hb a0 (by intro z; cases z))]; exact hb
  have fr : Frz H (L2.upd H x.row (.lst ws)) := fun b o u hb => by rw [upd_ne (ne_of hb a0 (by intro z; cases z))]; exact hb
  have L : ∀ {b : Addr} {xs : List (Key × V)}, H b = some (.dK xs) → L2.upd H x.row (.lst ws) b = some (.dK xs) := fun {b xs} hb => by rw [upd_ne (ne_of hb a0 (by intro z; cases z))]; exact hb
  refine ⟨⟨by rw [upd_ne n1.symm]; exact i.ob, ?_⟩, ⟨fun b o hb n => by rw [upd_ne (fun z => n (by rw [z]; simp [Own]))]; exact hb, fun _ q => .inl q, rfl, rfl, live_upd⟩⟩
  obtain ⟨c0, c1, c2⟩ := i.r.stn
  obtain ⟨s0, s1, s2⟩ := i.r.sts
  obtain ⟨f0, f1, f2⟩ := i.r.fresh
  obtain ⟨t0, t1, t2⟩ := i.r.prom
  obtain ⟨u0, u1, u2⟩ := i.r.tak
  exact ⟨sqT_keep tu fr i.r.mem, ⟨ws, upd_same, dpA_keep tu fr (imm_map imm_dT _) hd⟩, dp_keep tu fr (imm_dP _) i.r.done, sqT_keep tu fr i.r.st, ⟨c0, L c1, c2⟩, ⟨s0, L s1, s2.keep tu fr⟩, ⟨f0, by rw [upd_ne i.r.rf.symm]; exact f1, f2⟩,
    ⟨t0, L t1, drep_keep tu fr t2⟩, ⟨u0, L u1, drep_keep tu fr u2⟩, L i.r.heard, i.r.rf, i.r.nd⟩
theorem HAt.setFresh {ws : List V} {n : Nat} (i : HAt K H x h) (hd : ws.length = n) : HAt K (L2.upd H x.fresh (.lst ws)) x { h with fresh := n } ∧ To x H x (L2.upd H x.fresh (.lst ws)) := by
  obtain ⟨k0, a0, d0⟩ := i.r.fresh
  obtain ⟨n1, n2, n3, n4, n5, n6, n7⟩ := i.np
  have tu : Tups H (L2.upd H x.fresh (.lst ws)) := fun b xs hb => by rw [upd_ne (ne_of hb a0 (by intro z; cases z))]; exact hb
  have fr : Frz H (L2.upd H x.fresh (.lst ws)) := fun b o u hb => by rw [upd_ne (ne_of hb a0 (by intro z; cases z))]; exact hb
  have L : ∀ {b : Addr} {xs : List (Key × V)}, H b = some (.dK xs) → L2.upd H x.fresh (.lst ws) b = some (.dK xs) := fun {b xs} hb => by rw [upd_ne (ne_of hb a0 (by intro z; cases z))]; exact hb
  refine ⟨⟨by rw [upd_ne n4.symm]; exact i.ob, ?_⟩, ⟨fun b o hb n => by rw [upd_ne (fun z => n (by rw [z]; simp [Own]))]; exact hb, fun _ q => .inl q, rfl, rfl, live_upd⟩⟩
  obtain ⟨c0, c1, c2⟩ := i.r.stn
  obtain ⟨s0, s1, s2⟩ := i.r.sts
  obtain ⟨f0, f1, f2⟩ := i.r.row
  obtain ⟨t0, t1, t2⟩ := i.r.prom
  obtain ⟨u0, u1, u2⟩ := i.r.tak
  exact ⟨sqT_keep tu fr i.r.mem, ⟨f0, by rw [upd_ne i.r.rf]; exact f1, dpA_keep tu fr (imm_map imm_dT _) f2⟩, dp_keep tu fr (imm_dP _) i.r.done, sqT_keep tu fr i.r.st, ⟨c0, L c1, c2⟩, ⟨s0, L s1, s2.keep tu fr⟩, ⟨ws, upd_same, hd⟩,
    ⟨t0, L t1, drep_keep tu fr t2⟩, ⟨u0, L u1, drep_keep tu fr u2⟩, L i.r.heard, i.r.rf, i.r.nd⟩
end
/-! ### promises -/
section
variable {α : Type}
/-- what a method tells, nothing changed -/
def spP (K : PySem.W.Frag) (enc : α → List PyData) (pre : House → α → Prop) (res : House → α → PyData) : Sp := fun vs H Q _ => ∃ (x : HX) (h : House) (a : α) (ws : List V), vs = .ref x.p :: ws ∧ HAt K H x h ∧ WH h ∧ pre h a ∧ DpAll K H ws (enc a) ∧
  ∀ v H', Ex H H' → Dp K H' v (res h a) → Q v H'
/-- .. a new list -/
def spPN (K : PySem.W.Frag) (enc : α → List PyData) (pre : House → α → Prop) (res : House → α → List PyData) : Sp := fun vs H Q _ => ∃ (x : HX) (h : House) (a : α) (ws : List V), vs = .ref x.p :: ws ∧ HAt K H x h ∧ WH h ∧ pre h a ∧ DpAll K H ws (enc a) ∧
  ∀ p H', H p = none → Ex H H' → LstAt K H' p (res h a) → Q (.ref p) H'
/-- a method that changes the house and gives letters -/
def spM (K : PySem.W.Frag) (enc : α → List PyData) (pre : House → α → Prop) (f : House → α → House × List Letter) : Sp := fun vs H Q _ => ∃ (x : HX) (h : House) (a : α) (ws : List V), vs = .ref x.p :: ws ∧ HAt K H x h ∧ WH h ∧ pre h a ∧ DpAll K H ws (enc a) ∧
  ∀ p x' H', HAt K H' x' (f h a).1 → To x H x' H' → H p = none → ¬ Own x' p → LstAt K H' p ((f h a).2.map dL) → Q (.ref p) H'
/-- .. and gives None -/
def spU (K : PySem.W.Frag) (enc : α → List PyData) (pre : House → α → Prop) (f : House → α → House) : Sp := fun vs H Q _ => ∃ (x : HX) (h : House) (a : α) (ws : List V), vs = .ref x.p :: ws ∧ HAt K H x h ∧ WH h ∧ pre h a ∧ DpAll K H ws (enc a) ∧
  ∀ x' H', HAt K H' x' (f h a) → To x H x' H' → Q .non H'
end
section
variable {K : PySem.W.Frag} {σ : L2.St} {H : Hp} {x : HX} {h : House} {ta : TA} {α : Type} {enc : α → List PyData} {pre : House → α → Prop} {m : Str} {E : XK}
theorem evd_P {res : House → α → PyData} (i : HAt K H x h) (w : WH h) (a : α) (hp : pre h a) (he : EvDs K ta σ H (enc a)) (h0 : σ[0]? = some (some (.ref x.p)) := by rfl) (l : (hfs x h).lookup m = none := by kernel_rfl) :
    EvD K (tMeth (CH K) m (spP K enc pre res) [] E (tVar 0) ta) σ H (res h a) :=
  evd_meth (ev_var h0) i.ob l he fun vs H1 e hv Q q => ⟨x, h, a, vs, by rw [List.append_nil], i.ex e, w, hp, hv, q⟩
theorem evn_P {res : House → α → List PyData} (i : HAt K H x h) (w : WH h) (a : α) (hp : pre h a) (he : EvDs K ta σ H (enc a)) (h0 : σ[0]? = some (some (.ref x.p)) := by rfl) (l : (hfs x h).lookup m = none := by kernel_rfl) :
    EvN K (tMeth (CH K) m (spPN K enc pre res) [] E (tVar 0) ta) σ H (res h a) :=
  evn_meth (ev_var h0) i.ob l he fun vs H1 e hv Q q => ⟨x, h, a, vs, by rw [List.append_nil], i.ex e, w, hp, hv, q⟩
/-- the call of a changing method -/
theorem c_M {f : House → α → House × List Letter} {k : VK} (i : HAt K H x h) (w : WH h) (a : α) (hp : pre h a) (he : EvDs K ta σ H (enc a)) (h0 : σ[0]? = some (some (.ref x.p)) := by rfl) (l : (hfs x h).lookup m = none := by kernel_rfl)
    (q : ∀ p x' H', HAt K H' x' (f h a).1 → To x H x' H' → H p = none → ¬ Own x' p → LstAt K H' p ((f h a).2.map dL) → k (.ref p) H') : tMeth (CH K) m (spM K enc pre f) [] E (tVar 0) ta σ H k :=
  ⟨_, h0, x.p, x.dx, _, rfl, i.ob, l, he H (Evl.Ex.refl H) _ fun vs H1 e hv => ⟨x, h, a, vs, by rw [List.append_nil], i.ex e, w, hp, hv, fun p x' H' i' t hn no l' => q p x' H' i' ((To.ex x e).trans t) (Evl.fresh_back e hn) no l'⟩⟩
theorem c_U {f : House → α → House} {k : VK} (i : HAt K H x h) (w : WH h) (a : α) (hp : pre h a) (he : EvDs K ta σ H (enc a)) (h0 : σ[0]? = some (some (.ref x.p)) := by rfl) (l : (hfs x h).lookup m = none := by kernel_rfl)
    (q : ∀ x' H', HAt K H' x' (f h a) → To x H x' H' → k .non H') : tMeth (CH K) m (spU K enc pre f) [] E (tVar 0) ta σ H k :=
  ⟨_, h0, x.p, x.dx, _, rfl, i.ob, l, he H (Evl.Ex.refl H) _ fun vs H1 e hv => ⟨x, h, a, vs, by rw [List.append_nil], i.ex e, w, hp, hv, fun x' H' i' t => q x' H' i' ((To.ex x e).trans t)⟩⟩
/-- as a statement -/
theorem q_U {f : House → α → House} {tz : TS} {D : Ends} (i : HAt K H x h) (w : WH h) (a : α) (hp : pre h a) (he : EvDs K ta σ H (enc a)) (h0 : σ[0]? = some (some (.ref x.p)) := by rfl) (l : (hfs x h).lookup m = none := by kernel_rfl)
    (q : ∀ x' H', HAt K H' x' (f h a) → To x H x' H' → tz D σ H') : tSeq (tDrop (tMeth (CH K) m (spU K enc pre f) [] E (tVar 0) ta)) tz D σ H := c_U (k := fun _ H' => tz D σ H') i w a hp he h0 l q
end
/-! ### a method's promise from its body -/
section
variable {P : Program} {w : World} {K : PySem.W.Frag} {mg : Str → Option Value} {base : Heap} {α : Type} {enc : α → List PyData} {pre : House → α → Prop}
theorem cal_P (T : TX w K mg) (i : Nat) {d : He.DefD} {N ps : List Str} {k : Nat} {res : House → α → PyData} (hfn : fn[i]? = some d) (hd0 : d.dfl = []) (hk0 : d.kwd = []) (S : FnScope N ps d.scope) (hl : ∀ a, (enc a).length + 1 = ps.length)
    (hb : ∀ (kV doc pm : Value) (an : Option Addr) (cdv ct : Value) (us : List Value), us.length = ps.length → bindArgs (PySem.W.fnOf d.name d.qual d.params d.body d.scope .none kV doc pm an cdv ct) ⟨us, []⟩ = pure (ps.zip us))
    (hbody : ∀ (cdv : Value) (A : Around) (outer : List Env) (s : Shared) (H : Hp) (vs : List V) (E : XK) (x : HX) (h : House) (a : α), Room k (A.deeper (envOfC d.qual d.scope s.heap.objs.size (He.fAd K d.at_) cdv)) → HAt K H x h → WH h → pre h a → DpAll K H vs (enc a) →
      ∃ t, PSs (BX P w K mg base N d.qual d.scope (He.fAd K d.at_) cdv A outer s H E) d.body t ∧ ∀ D : Ends, (∀ v H', Ex H H' → Dp K H' v (res h a) → D.rt v H') → t D (start N (.ref x.p :: vs)) H) : Cal P w K mg base (k + 1) (He.fAd K d.at_) ps (spP K enc pre res) [] := by
  refine cal_mk T i hfn hd0 hk0 S (fun vs H Q E z => ?_) hb fun cdv A outer s H vs Q E hr z => ?_
  · obtain ⟨x, h, a, ws, rfl, _, _, _, hv, _⟩ := z
    rw [List.length_cons, dpA_len hv, hl a]
  · obtain ⟨x, h, a, ws, rfl, i, wh, hp, hv, q⟩ := z
    obtain ⟨t, h1, h2⟩ := hbody cdv A outer s H ws E x h a hr i wh hp hv
    exact ⟨t, h1, h2 _ q⟩
theorem cal_PN (T : TX w K mg) (i : Nat) {d : He.DefD} {N ps : List Str} {k : Nat} {res : House → α → List PyData} (hfn : fn[i]? = some d) (hd0 : d.dfl = []) (hk0 : d.kwd = []) (S : FnScope N ps d.scope) (hl : ∀ a, (enc a).length + 1 = ps.length)
    (hb : ∀ (kV doc pm : Value) (an : Option Addr) (cdv ct : Value) (us : List Value), us.length = ps.length → bindArgs (PySem.W.fnOf d.name d.qual d.params d.body d.scope .none kV doc pm an cdv ct) ⟨us, []⟩ = pure (ps.zip us))
    (hbody : ∀ (cdv : Value) (A : Around) (outer : List Env) (s : Shared) (H : Hp) (vs : List V) (E : XK) (x : HX) (h : House) (a : α), Room k (A.deeper (envOfC d.qual d.scope s.heap.objs.size (He.fAd K d.at_) cdv)) → HAt K H x h → WH h → pre h a → DpAll K H vs (enc a) →
      ∃ t, PSs (BX P w K mg base N d.qual d.scope (He.fAd K d.at_) cdv A outer s H E) d.body t ∧ ∀ D : Ends, (∀ p H', H p = none → Ex H H' → LstAt K H' p (res h a) → D.rt (.ref p) H') → t D (start N (.ref x.p :: vs)) H) : Cal P w K mg base (k + 1) (He.fAd K d.at_) ps (spPN K enc pre res) [] := by
  refine cal_mk T i hfn hd0 hk0 S (fun vs H Q E z => ?_) hb fun cdv A outer s H vs Q E hr z => ?_
  · obtain ⟨x, h, a, ws, rfl, _, _, _, hv, _⟩ := z
    rw [List.length_cons, dpA_len hv, hl a]
  · obtain ⟨x, h, a, ws, rfl, i, wh, hp, hv, q⟩ := z
    obtain ⟨t, h1, h2⟩ := hbody cdv A outer s H ws E x h a hr i wh hp hv
    exact ⟨t, h1, h2 _ q⟩
theorem cal_M (T : TX w K mg) (i : Nat) {d : He.DefD} {N ps : List Str} {k : Nat} {f : House → α → House × List Letter} (hfn : fn[i]? = some d) (hd0 : d.dfl = []) (hk0 : d.kwd = []) (S : FnScope N ps d.scope) (hl : ∀ a, (enc a).length + 1 = ps.length)
    (hb : ∀ (kV doc pm : Value) (an : Option Addr) (cdv ct : Value) (us : List Value), us.length = ps.length → bindArgs (PySem.W.fnOf d.name d.qual d.params d.body d.scope .none kV doc pm an cdv ct) ⟨us, []⟩ = pure (ps.zip us))
    (hbody : ∀ (cdv : Value) (A : Around) (outer : List Env) (s : Shared) (H : Hp) (vs : List V) (E : XK) (x : HX) (h : House) (a : α), Room k (A.deeper (envOfC d.qual d.scope s.heap.objs.size (He.fAd K d.at_) cdv)) → HAt K H x h → WH h → pre h a → DpAll K H vs (enc a) →
      ∃ t, PSs (BX P w K mg base N d.qual d.scope (He.fAd K d.at_) cdv A outer s H E) d.body t ∧ ∀ D : Ends, (∀ p x' H', HAt K H' x' (f h a).1 → To x H x' H' → H p = none → ¬ Own x' p → LstAt K H' p ((f h a).2.map dL) → D.rt (.ref p) H') → t D (start N (.ref x.p :: vs)) H) : Cal P w K mg base (k + 1) (He.fAd K d.at_) ps (spM K enc pre f) [] := by
  refine cal_mk T i hfn hd0 hk0 S (fun vs H Q E z => ?_) hb fun cdv A outer s H vs Q E hr z => ?_
  · obtain ⟨x, h, a, ws, rfl, _, _, _, hv, _⟩ := z
    rw [List.length_cons, dpA_len hv, hl a]
  · obtain ⟨x, h, a, ws, rfl, i, wh, hp, hv, q⟩ := z
    obtain ⟨t, h1, h2⟩ := hbody cdv A outer s H ws E x h a hr i wh hp hv
    exact ⟨t, h1, h2 _ q⟩
theorem cal_U (T : TX w K mg) (i : Nat) {d : He.DefD} {N ps : List Str} {k : Nat} {f : House → α → House} (hfn : fn[i]? = some d) (hd0 : d.dfl = []) (hk0 : d.kwd = []) (S : FnScope N ps d.scope) (hl : ∀ a, (enc a).length + 1 = ps.length)
    (hb : ∀ (kV doc pm : Value) (an : Option Addr) (cdv ct : Value) (us : List Value), us.length = ps.length → bindArgs (PySem.W.fnOf d.name d.qual d.params d.body d.scope .none kV doc pm an cdv ct) ⟨us, []⟩ = pure (ps.zip us))
    (hbody : ∀ (cdv : Value) (A : Around) (outer : List Env) (s : Shared) (H : Hp) (vs : List V) (E : XK) (x : HX) (h : House) (a : α), Room k (A.deeper (envOfC d.qual d.scope s.heap.objs.size (He.fAd K d.at_) cdv)) → HAt K H x h → WH h → pre h a → DpAll K H vs (enc a) →
      ∃ t, PSs (BX P w K mg base N d.qual d.scope (He.fAd K d.at_) cdv A outer s H E) d.body t ∧ ∀ D : Ends, (∀ x' H' σ', HAt K H' x' (f h a) → To x H x' H' → D.nx σ' H') → t D (start N (.ref x.p :: vs)) H) : Cal P w K mg base (k + 1) (He.fAd K d.at_) ps (spU K enc pre f) [] := by
  refine cal_mk T i hfn hd0 hk0 S (fun vs H Q E z => ?_) hb fun cdv A outer s H vs Q E hr z => ?_
  · obtain ⟨x, h, a, ws, rfl, _, _, _, hv, _⟩ := z
    rw [List.length_cons, dpA_len hv, hl a]
  · obtain ⟨x, h, a, ws, rfl, i, wh, hp, hv, q⟩ := z
    obtain ⟨t, h1, h2⟩ := hbody cdv A outer s H ws E x h a hr i wh hp hv
    exact ⟨t, h1, h2 _ fun x' H' _ i' t' => q x' H' i' t'⟩
end
end Wn

set_option Elab.async false
set_option linter.all false
set_option maxRecDepth 100000
set_option maxHeartbeats 4000000
/-! methods (1). -/
namespace Wn
open PySem PySem.Spec PyProof.Rows L2
open Zab hiding World Place Row
section
variable {K : PySem.W.Frag} {H H' : Hp} {x : HX} {h h' : House} {σ : L2.St} {tv : TE} {f : Str} {D : Ends} {tz : TS}
theorem q_fldV {v : V} (h0 : σ[0]? = some (some (.ref x.p))) (cl : Cls K (CH K)) (na : NoAttr K (CH K) f) (i : HAt K H x h) (hv : Evl.Ev tv σ H v) (e1 : putF f v (hfs x h) = hfs x h') (hr : HR K H x h')
    (k : ∀ H2, HAt K H2 x h' → To x H x H2 → tz D σ H2) : tSeq (sFld K (tVar 0) tv f) tz D σ H := s_fldV (D := { D with nx := tz D }) h0 cl na i hv e1 hr k
theorem q_fldDone {p : Place} (h0 : σ[0]? = some (some (.ref x.p))) (cl : Cls K (CH K)) (na : NoAttr K (CH K) "own_done") (i : HAt K H x h) (hv : EvD K tv σ H (dP p))
    (k : ∀ H2 a, HAt K H2 { x with done := a } { h with done := p } → To x H { x with done := a } H2 → tz D σ H2) : tSeq (sFld K (tVar 0) tv "own_done") tz D σ H := s_fldDone (D := { D with nx := tz D }) h0 cl na i hv k
theorem q_fldProm {d : Dic} (h0 : σ[0]? = some (some (.ref x.p))) (cl : Cls K (CH K)) (na : NoAttr K (CH K) "promises") (i : HAt K H x h)
    (hv : ∀ Q : VK, (∀ a H1 kvs, H a = none → Ex H H1 → H1 a = some (.dK kvs) → DRep K H1 kvs d → Q (.ref a) H1) → tv σ H Q)
    (k : ∀ H2 a, HAt K H2 { x with prom := a } { h with promises := d } → To x H { x with prom := a } H2 → tz D σ H2) : tSeq (sFld K (tVar 0) tv "promises") tz D σ H := s_fldProm (D := { D with nx := tz D }) h0 cl na i hv k
theorem q_fldTak {d : Dic} (h0 : σ[0]? = some (some (.ref x.p))) (cl : Cls K (CH K)) (na : NoAttr K (CH K) "taken") (i : HAt K H x h)
    (hv : ∀ Q : VK, (∀ a H1 kvs, H a = none → Ex H H1 → H1 a = some (.dK kvs) → DRep K H1 kvs d → Q (.ref a) H1) → tv σ H Q)
    (k : ∀ H2 a, HAt K H2 { x with tak := a } { h with taken := d } → To x H { x with tak := a } H2 → tz D σ H2) : tSeq (sFld K (tVar 0) tv "taken") tz D σ H := s_fldTak (D := { D with nx := tz D }) h0 cl na i hv k
theorem q_fldHeard (h0 : σ[0]? = some (some (.ref x.p))) (cl : Cls K (CH K)) (na : NoAttr K (CH K) "heard_at") (i : HAt K H x h)
    (hv : ∀ Q : VK, (∀ a H1, H a = none → Ex H H1 → H1 a = some (.dK []) → Q (.ref a) H1) → tv σ H Q)
    (k : ∀ H2 a, HAt K H2 { x with heard := a } h → To x H { x with heard := a } H2 → tz D σ H2) : tSeq (sFld K (tVar 0) tv "heard_at") tz D σ H := s_fldHeard (D := { D with nx := tz D }) h0 cl na i hv k
theorem q_fldFresh (h0 : σ[0]? = some (some (.ref x.p))) (cl : Cls K (CH K)) (na : NoAttr K (CH K) "fresh") (i : HAt K H x h) (hv : EvN K tv σ H [])
    (k : ∀ H2 a, HAt K H2 { x with fresh := a } { h with fresh := 0 } → To x H { x with fresh := a } H2 → tz D σ H2) : tSeq (sFld K (tVar 0) tv "fresh") tz D σ H := s_fldFresh (D := { D with nx := tz D }) h0 cl na i hv k
theorem q_fldRow {r' : Row} (h0 : σ[0]? = some (some (.ref x.p))) (cl : Cls K (CH K)) (na : NoAttr K (CH K) "own_row") (i : HAt K H x h) (hv : EvN K tv σ H (r'.map dT))
    (k : ∀ H2 a, HAt K H2 { x with row := a } { h with row := r' } → To x H { x with row := a } H2 → tz D σ H2) : tSeq (sFld K (tVar 0) tv "own_row") tz D σ H := s_fldRow (D := { D with nx := tz D }) h0 cl na i hv k
theorem q_fldState (h0 : σ[0]? = some (some (.ref x.p))) (cl : Cls K (CH K)) (na : NoAttr K (CH K) "own_state") (i : HAt K H x h)
    (hv : ∀ Q : VK, (∀ a n s H1, Ex H H1 → StNew K H H1 a n s → Q (.ref a) H1) → tv σ H Q)
    (k : ∀ H2 a n s, HAt K H2 { x with st := a, stn := n, sts := s } h → To x H { x with st := a, stn := n, sts := s } H2 → tz D σ H2) : tSeq (sFld K (tVar 0) tv "own_state") tz D σ H := s_fldState (D := { D with nx := tz D }) h0 cl na i hv k
end
theorem u65 {k : Nat} {A : Around} (r : Room k A) : A.units + 65 < cLine := by have := r.un; omega
section
variable {P : Program} {w : World} {K : PySem.W.Frag} {mg : Str → Option Value} {base : Heap}
abbrev e0 : Unit → List PyData := fun _ => []
abbrev pre0 {α : Type} : House → α → Prop := fun _ _ => True
abbrev spPromised (K : PySem.W.Frag) : Sp := spP K e0 pre0 (fun h _ => dI h.promised)
theorem sc_H_promised : FnScope ["self"] ["self"] (defScope m_promised) := ⟨rfl, rfl, rfl, by decide +kernel, rfl, by decide +kernel, by decide +kernel⟩
theorem ok_promised (T : TX w K mg) : Cal P w K mg base 1 (He.ma K (CH K) "promised") ["self"] (spPromised K) [] := by
  refine cal_P T 60 (d := e_promised) rfl rfl rfl sc_H_promised (fun _ => rfl) (fun _ _ _ _ _ _ us hl => match us, hl with | [_], _ => rfl) fun cdv A outer s H vs E x h a hr i wh _ hv => ?_
  obtain rfl := dpA0 hv
  exact ⟨_, (pss_one (ps_ret (pe_fld (pv 0) rfl))), fun D q => s_retD (evd_promised T.cls i T.a_own_promised) q⟩
abbrev spEpoch (K : PySem.W.Frag) : Sp := spP K e0 pre0 (fun h _ => dI h.epoch)
theorem sc_H_epoch : FnScope ["self"] ["self"] (defScope m_epoch) := ⟨rfl, rfl, rfl, by decide +kernel, rfl, by decide +kernel, by decide +kernel⟩
theorem ok_epoch (T : TX w K mg) : Cal P w K mg base 1 (He.ma K (CH K) "epoch") ["self"] (spEpoch K) [] := by
  refine cal_P T 61 (d := e_epoch) rfl rfl rfl sc_H_epoch (fun _ => rfl) (fun _ _ _ _ _ _ us hl => match us, hl with | [_], _ => rfl) fun cdv A outer s H vs E x h a hr i wh _ hv => ?_
  obtain rfl := dpA0 hv
  exact ⟨_, (pss_one (ps_ret (pe_fld (pv 0) rfl))), fun D q => s_retD (evd_epoch T.cls i T.a_own_epoch) q⟩
abbrev spOthers (K : PySem.W.Frag) : Sp := spPN K e0 pre0 (fun h _ => h.others.map dN)
theorem sc_H_others : FnScope ["self", "other"] ["self"] (defScope m_others) := ⟨rfl, rfl, rfl, by decide +kernel, rfl, by decide +kernel, by decide +kernel⟩
theorem ok_others (T : TX w K mg) : Cal P w K mg base 1 (He.ma K (CH K) "others") ["self"] (spOthers K) [] := by
  refine cal_PN T 34 (d := e_others) rfl rfl rfl sc_H_others (fun _ => rfl) (fun _ _ _ _ _ _ us hl => match us, hl with | [_], _ => rfl) fun cdv A outer s H vs E x h a hr i wh _ hv => ?_
  obtain rfl := dpA0 hv
  refine ⟨_, (pss_one (ps_ret (pe_lc (own := [("other", 1)]) (g := gName 1) (by rfl) sc_H_others.nd (pi_tup (pe_fld (pv 0) rfl)) (blkOk_by (own := [("other", 1)]) (N := ["self", "other"]) (sc := defScope m_others) (by decide +kernel)) (fun _ _ _ _ _ => pg_name (i := 1) sc_H_others.nd rfl (Or.inl rfl)) (fun _ _ _ _ _ => (pts_one (pt_cmpR op_ne (pv 1) (pe_fldK (K := K) (pv 0) rfl) (nomark _)))) (fun _ _ _ _ _ => (pv 1))))), fun D q => ?_⟩
  exact s_retN (evn_lcT (g := dN) (fun o => decide (o ≠ h.nm)) dN (evd_members T.cls i T.a_own_members) (by have := wh.mem; omega) (fun _ _ => imm_dN _)
    (fun o _ v H1 e hv => et_to (et_t (evd_op (evd_var hv) (evd_name T.cls (i.ex e) T.a_own_name) (rd_neS (a := nS o) (b := nS h.nm)))) (by by_cases c : o = h.nm <;> simp [c, nS_inj])) fun o _ v H1 e hv _ => evd_var hv) q
abbrev spLast1 (K : PySem.W.Frag) : Sp := spP K e0 pre0 (fun h _ => dP h.lst)
theorem sc_H_last : FnScope ["self"] ["self"] (defScope m_last) := ⟨rfl, rfl, rfl, by decide +kernel, rfl, by decide +kernel, by decide +kernel⟩
theorem ok_last (T : TX w K mg) : Cal P w K mg base 2 (He.ma K (CH K) "last") ["self"] (spLast1 K) [] := by
  have C_last_place := ok_last_place (P := P) (base := base) T
  refine cal_P T 35 (d := e_last) rfl rfl rfl sc_H_last (fun _ => rfl) (fun _ _ _ _ _ _ us hl => match us, hl with | [_], _ => rfl) fun cdv A outer s H vs E x h a hr i wh _ hv => ?_
  obtain rfl := dpA0 hv
  exact ⟨_, (pss_one (ps_ret (pe_k C_last_place (hr.mono (by decide)) (by rfl) T.g_last_place (pa_cons (pe_fld (pv 0) rfl) pa_nil)))), fun D q => s_retD (evd_F h.row trivial (eds_one (evd_row T.cls i T.a_own_row))) q⟩
abbrev spHas (K : PySem.W.Frag) : Sp := spP K (fun p : Place => [dP p]) pre0 (fun h p => .bool (hasP h.row p))
theorem any_places (r : Row) (p : Place) : (r.map fun t => dP t.1).any (fun z => PyData.eqv z (dP p)) = (places r).any fun q => decide (q = p) := by
  unfold places
  induction r with
  | nil => rfl
  | cons t r ih => rw [List.map_cons, List.map_cons, List.any_cons, List.any_cons, ih, eqv_dP]
theorem sc_H_has : FnScope ["self", "place", "own", "entry"] ["self", "place"] (defScope m_has) := ⟨rfl, rfl, rfl, by decide +kernel, rfl, by decide +kernel, by decide +kernel⟩
theorem ok_has (T : TX w K mg) : Cal P w K mg base 1 (He.ma K (CH K) "has") ["self", "place"] (spHas K) [] := by
  refine cal_P T 36 (d := e_has) rfl rfl rfl sc_H_has (fun _ => rfl) (fun _ _ _ _ _ _ us hl => match us, hl with | [_, _], _ => rfl) fun cdv A outer s H vs E x h p hr i wh _ hv => ?_
  obtain ⟨v, rfl, hd⟩ := dpA1 hv
  refine ⟨_, (pss_one (ps_ret (pe_or (pe_cmpR (op_eqD (hr.units)) (pv 1) (pe_gR (by rfl) T.g_NOWHERE) (nomark _)) (pe_one (pe_cmpR (op_inD (u65 hr)) (pv 1) (pe_lc (own := [("own", 2), ("entry", 3)]) (g := gTup K 2 (gCons (gName 2) (gCons (gName 3) gNil))) (by rfl) sc_H_has.nd (pi_list (pe_fld (pv 0) rfl)) (blkOk_by (own := [("own", 2), ("entry", 3)]) (N := ["self", "place", "own", "entry"]) (sc := defScope m_has) (by decide +kernel)) (fun _ _ _ _ _ => pg_tup rfl (pgs_cons (pg_name (i := 2) sc_H_has.nd rfl (Or.inl rfl)) (pgs_cons (pg_name (i := 3) sc_H_has.nd rfl (Or.inl rfl)) pgs_nil))) (fun _ _ _ _ _ => pts_nil) (fun _ _ _ _ _ => (pv 2))) (by rfl)))))), fun D q => ?_⟩
  refine s_retD ((evd_or (evd_op (evd_var hd) (evd_c (T.nowhere H)) (rd_eqD (shp_dP _) (shp_dP _))) fun _ => evd_op (evd_var hd) (evn_lc2 (g1 := fun t : Thing => dP t.1) (g2 := fun t => dE t.2) (fun _ => true) (fun t => dP t.1) (evd_row T.cls i T.a_own_row) (by have := wh.row; omega) (fun _ _ => imm_dP _) (fun _ _ _ _ _ _ _ _ => et_yes) fun t _ v w H1 e h1 h2 _ => evd_var h1).d
    (rd_inD (k := 2) (shp_dP _) (by rw [filter_true]; exact (ShpA.map fun t _ => shp_dP t.1).lst))).to ?_) q
  rw [filter_true, any_places, eqv_dP]
  rfl
abbrev spStandDown (K : PySem.W.Frag) : Sp := spU K e0 pre0 (fun h _ => h.standDown)
theorem sc_H_stand_down : FnScope ["self"] ["self"] (defScope m_stand_down) := ⟨rfl, rfl, rfl, by decide +kernel, rfl, by decide +kernel, by decide +kernel⟩
theorem ok_stand_down (T : TX w K mg) : Cal P w K mg base 1 (He.ma K (CH K) "stand_down") ["self"] (spStandDown K) [] := by
  refine cal_U T 33 (d := e_stand_down) rfl rfl rfl sc_H_stand_down (fun _ => rfl) (fun _ _ _ _ _ _ us hl => match us, hl with | [_], _ => rfl) fun cdv A outer s H vs E x h a hr i wh _ hv => ?_
  obtain rfl := dpA0 hv
  refine ⟨_, (pss_cons (ps_fld (pv 0) pe_str rfl)
    (pss_cons (ps_fld (pv 0) pe_non rfl)
    (pss_cons (ps_fld (pv 0) pe_non rfl)
    (pss_cons (ps_fld (pv 0) pe_dnewK rfl)
    (pss_cons (ps_fld (pv 0) pe_dnewK rfl)
    (pss_cons (ps_fld (pv 0) pe_int rfl)
    (pss_one (ps_fld (pv 0) pe_dnewK rfl)))))))), fun D q => ?_⟩
  refine q_fldV (h' := { h with role := .seeks }) (by rfl) T.cls T.a_own_role i Evl.ev_c (p_role (r := .seeks)) (i.r.of) fun H1 i1 t1 => ?_
  refine q_fldV (h' := { h with role := .seeks, head := none }) (by rfl) T.cls T.a_own_head i1 Evl.ev_c (p_head (o := none)) (i1.r.of) fun H2 i2 t2 => ?_
  refine q_fldV (h' := { h with role := .seeks, head := none, sought := none }) (by rfl) T.cls T.a_sought i2 Evl.ev_c (p_sought (o := none)) (i2.r.of) fun H3 i3 t3 => ?_
  refine q_fldProm (d := []) (by rfl) T.cls T.a_promises i3 (by exact fun Q k p hp => k p _ [] hp (Evl.Ex.new hp) upd_same trivial) fun H4 a4 i4 t4 => ?_
  refine q_fldTak (d := []) (by rfl) T.cls T.a_taken i4 (by exact fun Q k p hp => k p _ [] hp (Evl.Ex.new hp) upd_same trivial) fun H5 a5 i5 t5 => ?_
  refine q_fldV (h' := h.standDown) (by rfl) T.cls T.a_own_clock i5 Evl.ev_c (p_clock (n := 0)) (i5.r.of) fun H6 i6 t6 => ?_
  refine s_fldHeard (by rfl) T.cls T.a_heard_at i6 (by exact fun Q k p hp => k p _ hp (Evl.Ex.new hp) upd_same) fun H7 a7 i7 t7 => ?_
  exact q _ _ _ i7 ((((((t1.trans t2).trans t3).trans t4).trans t5).trans t6).trans t7)
end
end Wn

set_option Elab.async false
set_option linter.all false
set_option maxRecDepth 100000
set_option maxHeartbeats 4000000
/-! methods (2). -/
namespace Wn
open PySem PySem.Spec PyProof.Rows L2
open Zab hiding World Place Row
section
variable {K : PySem.W.Frag} {σ : L2.St} {H : Hp} {te : TE} {ta : TA}
theorem evd_tupOf {ds : List PyData} (h : EvD K te σ H (.list ds)) : EvD K (tCB (fun xs H Q => ∃ p ys, xs = [.ref p] ∧ ((SqL K H p ys ∧ ∀ l, H l = none → Q (.ref l) (upd H l (.tup ys))) ∨ (SqT K H p ys ∧ Q (.ref p) H))) (tCons te tNil)) σ H (.tuple ds) :=
  evd_cb (eds_one h) fun vs H1 e hv Q q => by
    obtain ⟨v, rfl, d⟩ := dpA1 hv
    obtain ⟨a, xs, rfl, s1, s2⟩ := dp_lst d
    exact ⟨a, xs, rfl, .inl ⟨s1, fun l hl => q _ _ (Evl.Ex.new hl) (.tup (SqT.of upd_same) (dpA_ex (Evl.Ex.new hl) s2))⟩⟩
theorem evn_listOf {ds : List PyData} (h : EvD K te σ H (.list ds)) : EvN K (tCB (fun xs H Q => ∃ p ys, xs = [.ref p] ∧ (SqL K H p ys ∨ SqT K H p ys) ∧ ∀ l, H l = none → Q (.ref l) (upd H l (.lst ys))) (tCons te tNil)) σ H ds :=
  evn_cb (eds_one h) fun vs H1 e hv Q q => by
    obtain ⟨v, rfl, d⟩ := dpA1 hv
    obtain ⟨a, xs, rfl, s1, s2⟩ := dp_lst d
    exact ⟨a, xs, rfl, .inl s1, fun l hl => q _ _ hl (Evl.Ex.new hl) ⟨xs, upd_same, dpA_ex (Evl.Ex.new hl) s2⟩⟩
theorem evn_listOfT {ds : List PyData} (h : EvD K te σ H (.tuple ds)) : EvN K (tCB (fun xs H Q => ∃ p ys, xs = [.ref p] ∧ (SqL K H p ys ∨ SqT K H p ys) ∧ ∀ l, H l = none → Q (.ref l) (upd H l (.lst ys))) (tCons te tNil)) σ H ds :=
  evn_cb (eds_one h) fun vs H1 e hv Q q => by
    obtain ⟨v, rfl, d⟩ := dpA1 hv
    obtain ⟨a, xs, rfl, s1, s2⟩ := dp_tup d
    exact ⟨a, xs, rfl, .inr s1, fun l hl => q _ _ hl (Evl.Ex.new hl) ⟨xs, upd_same, dpA_ex (Evl.Ex.new hl) s2⟩⟩
end
section
variable {P : Program} {w : World} {K : PySem.W.Frag} {mg : Str → Option Value} {base : Heap}
/-! ### say -/
abbrev SayA := Str × Nat × Nat × List PyData
abbrev spSay (K : PySem.W.Frag) : Sp := spP K (fun a : SayA => [.str a.1, dN a.2.1, dI a.2.2.1, .tuple a.2.2.2]) (fun _ a => a.2.2.2.length ≤ 1000) (fun h a => .tuple (.str a.1 :: dN h.nm :: dN a.2.1 :: dI a.2.2.1 :: a.2.2.2))
theorem sc_H_say : FnScope ["self", "word", "other", "epoch", "rest"] ["self", "word", "other", "epoch", "rest"] (defScope m_say) := ⟨rfl, rfl, rfl, by decide +kernel, rfl, by decide +kernel, by decide +kernel⟩
theorem say_body (T : TX w K mg) (cdv : Value) (A : Around) (outer : List Env) (s : Shared) (H : Hp) (vs : List V) (Q : VK) (E : XK) (hr : Room 0 (A.deeper (envOfC e_say.qual e_say.scope s.heap.objs.size (He.fAd K e_say.at_) cdv))) (z : spSay K vs H Q E) :
    ∃ t, PSs (BX P w K mg base ["self", "word", "other", "epoch", "rest"] e_say.qual e_say.scope (He.fAd K e_say.at_) cdv A outer s H E) e_say.body t ∧ t { nx := fun _ H' => Q .non H', rt := Q } (start ["self", "word", "other", "epoch", "rest"] vs) H := by
  obtain ⟨x, h, a, ws, rfl, i, wh, hp, hv, q⟩ := z
  obtain ⟨v1, v2, v3, v4, rfl, h1, h2, h3, h4⟩ := dpA4 hv
  refine ⟨_, (pss_one (ps_ret (pe_op op_catT (pe_tup (pa_cons (pv 1) (pa_cons (pe_fld (pv 0) rfl) (pa_cons (pv 2) (pa_cons (pv 3) pa_nil))))) (pv 4)))), ?_⟩
  exact s_retD (evd_op (evd_tup (eds_cons (evd_var h1) (eds_cons (evd_name T.cls i T.a_own_name) (eds_cons (evd_var h2) (eds_one (evd_var h3))))) (by show 4 ≤ 100000; decide)) (evd_var h4) (rd_catT (by simp) (by simp; omega))) q
theorem ok_say (T : TX w K mg) : Cal P w K mg base 1 (He.ma K (CH K) "say") ["self", "word", "other", "epoch", "rest"] (spSay K) [] ∧ Cal P w K mg base 1 (He.ma K (CH K) "say") ["self", "word", "other", "epoch", "rest"] (spSay K) [.ref (He.dflAt ("House", some "say") 0 K)] := by
  obtain ⟨fd, F⟩ := T.says.d.def_ 37 (d := e_say) rfl
  have e2 : e_say.kws K = [] := rfl
  rw [e2] at F
  have O : FnOk P w K mg base CX0 1 (He.fAd K e_say.at_) fd ["self", "word", "other", "epoch", "rest"] (spSay K) := F.ok sc_H_say (fun vs H Q E z => by
    obtain ⟨x, h, a, ws, rfl, i, wh, hp, hv, q⟩ := z
    obtain ⟨v1, v2, v3, v4, rfl, _⟩ := dpA4 hv
    rfl) fun cdv A outer s H vs Q E hr h => by
    obtain ⟨t, h1, h2⟩ := say_body (P := P) (base := base) T cdv A outer s H vs Q E hr h
    exact ⟨t, h1.nox, h2⟩
  constructor
  · obtain ⟨ds, h1, h2⟩ := F.binds1 (ps := ["self", "word", "other", "epoch", "rest"]) 5 1 (by intro z; cases z) rfl (fun T' kV doc pm an cdv ct us its hl hi => match us, its, hl, hi with
      | [_, _, _, _, _], [_], _, _ => ⟨_, rfl, rfl⟩)
    exact ⟨⟨fd, ds, O, h2, h1⟩, F.kp⟩
  · obtain ⟨ds, h1, h2⟩ := F.binds1 (ps := ["self", "word", "other", "epoch", "rest"]) 4 0 (by intro z; cases z) rfl (fun T' kV doc pm an cdv ct us its hl hi => match us, its, hl, hi with
      | [_, _, _, _], [_], _, _ => ⟨_, rfl, rfl⟩)
    exact ⟨⟨fd, ds, O, h2, h1⟩, F.kp⟩
section
variable {σ : L2.St} {H : Hp} {x : HX} {h : House} {ta : TA}
theorem evd_say (b : Body) {o e : Nat} {E : XK} (i : HAt K H x h) (wh : WH h) (he : EvDs K ta σ H [.str (wordS b), dN o, dI e, .tuple (dB b)]) (h0 : σ[0]? = some (some (.ref x.p)) := by rfl) : EvD K (tMeth (CH K) "say" (spSay K) [] E (tVar 0) ta) σ H (dL ⟨h.nm, o, e, b⟩) :=
  evd_P (m := "say") i wh ((wordS b, o, e, dB b) : SayA) (by have := dB_len b; show (dB b).length ≤ 1000; omega) he h0
theorem evd_say3 (T : TX w K mg) (b : Body) (hb : dB b = []) {o e : Nat} {E : XK} (i : HAt K H x h) (wh : WH h) (he : EvDs K ta σ H [.str (wordS b), dN o, dI e]) (h0 : σ[0]? = some (some (.ref x.p)) := by rfl) : EvD K (tMeth (CH K) "say" (spSay K) [.ref (He.dflAt ("House", some "say") 0 K)] E (tVar 0) ta) σ H (dL ⟨h.nm, o, e, b⟩) :=
  evd_meth (ev_var h0) i.ob (by kernel_rfl) he fun vs H1 e1 hv Q q => ⟨x, h, (wordS b, o, e, []), _, rfl, i.ex e1, wh, Nat.zero_le _, dpA_app hv (dpA_one (T.dfl H1)), by
    have e2 : dL ⟨h.nm, o, e, b⟩ = .tuple [.str (wordS b), dN h.nm, dN o, dI e] := by unfold dL; rw [hb]
    rw [e2] at q
    exact q⟩
end
abbrev spLeads (K : PySem.W.Frag) : Sp := spP K (fun e : Nat => [dI e]) pre0 (fun h e => .bool (h.leadsBy e))
theorem role_leads (r : Role) : decide (roleS r = ("leads" : Str)) = decide (r = .leads) := by cases r <;> decide +kernel
theorem sc_H_leads : FnScope ["self", "epoch"] ["self", "epoch"] (defScope m_leads) := ⟨rfl, rfl, rfl, by decide +kernel, rfl, by decide +kernel, by decide +kernel⟩
theorem ok_leads (T : TX w K mg) : Cal P w K mg base 1 (He.ma K (CH K) "leads") ["self", "epoch"] (spLeads K) [] := by
  refine cal_P T 41 (d := e_leads) rfl rfl rfl sc_H_leads (fun _ => rfl) (fun _ _ _ _ _ _ us hl => match us, hl with | [_, _], _ => rfl) fun cdv A outer s H vs E x h e hr i wh _ hv => ?_
  obtain ⟨v, rfl, hd⟩ := dpA1 hv
  refine ⟨_, (pss_one (ps_ret (pe_and (pe_cmpR op_eq (pe_fld (pv 0) rfl) pe_str (nomark _)) (pe_one (pe_cmpR op_eq (pv 1) (pe_fld (pv 0) rfl) (nomark _)))))), fun D q => ?_⟩
  refine s_retD ((evd_and (evd_op (evd_role T.cls i T.a_own_role) evd_str (rd_eqS (a := roleS h.role) (b := "leads"))) fun _ => evd_op (evd_var hd) (evd_epoch T.cls i T.a_own_epoch) (rd_eqI (a := (e : Int)) (b := (h.epoch : Int)))).to ?_) q
  rw [role_leads]
  unfold House.leadsBy
  by_cases c : e = h.epoch <;> simp [c]
  by_cases c2 : (e : Int) = (h.epoch : Int)
  · exact absurd (by omega) c
  · simp [c2]
abbrev spStands (K : PySem.W.Frag) : Sp := spP K (fun e : Nat => [dI e]) pre0 (fun h e => .bool (h.standsBy e))
theorem dec_nat (a b : Nat) : decide ((a : Int) = (b : Int)) = decide (a = b) := by
  by_cases c : a = b
  · rw [decide_eq_true c, c]; exact decide_eq_true rfl
  · rw [decide_eq_false c]; exact decide_eq_false (by omega)
theorem sc_H_stands_by : FnScope ["self", "epoch"] ["self", "epoch"] (defScope m_stands_by) := ⟨rfl, rfl, rfl, by decide +kernel, rfl, by decide +kernel, by decide +kernel⟩
theorem ok_stands_by (T : TX w K mg) : Cal P w K mg base 1 (He.ma K (CH K) "stands_by") ["self", "epoch"] (spStands K) [] := by
  refine cal_P T 42 (d := e_stands_by) rfl rfl rfl sc_H_stands_by (fun _ => rfl) (fun _ _ _ _ _ _ us hl => match us, hl with | [_, _], _ => rfl) fun cdv A outer s H vs E x h e hr i wh _ hv => ?_
  obtain ⟨v, rfl, hd⟩ := dpA1 hv
  refine ⟨_, (pss_one (ps_ret (pe_and (pe_cmpR op_eq (pv 1) (pe_fld (pv 0) rfl) (nomark _)) (pe_and (pe_cmpR op_eq (pv 1) (pe_fld (pv 0) rfl) (nomark _)) (pe_one (pe_cmpR op_ne (pe_fld (pv 0) rfl) pe_str (nomark _))))))), fun D q => ?_⟩
  refine s_retD ((evd_and (evd_op (evd_var hd) (evd_promised T.cls i T.a_own_promised) (rd_eqI (a := (e : Int)) (b := (h.promised : Int)))) fun _ => evd_and (evd_op (evd_var hd) (evd_epoch T.cls i T.a_own_epoch) (rd_eqI (a := (e : Int)) (b := (h.epoch : Int)))) fun _ =>
    evd_op (evd_role T.cls i T.a_own_role) evd_str (rd_neS (a := roleS h.role) (b := "leads"))).to ?_) q
  rw [role_leads, dec_nat, dec_nat]
  rfl
abbrev spSettled (K : PySem.W.Frag) : Sp := spP K e0 pre0 (fun h _ => .bool h.settled)
theorem sc_H_is_settled : FnScope ["self"] ["self"] (defScope m_is_settled) := ⟨rfl, rfl, rfl, by decide +kernel, rfl, by decide +kernel, by decide +kernel⟩
theorem ok_is_settled (T : TX w K mg) : Cal P w K mg base 2 (He.ma K (CH K) "is_settled") ["self"] (spSettled K) [] := by
  have C_most_of := ok_most_of (P := P) (base := base) T
  refine cal_P T 43 (d := e_is_settled) rfl rfl rfl sc_H_is_settled (fun _ => rfl) (fun _ _ _ _ _ _ us hl => match us, hl with | [_], _ => rfl) fun cdv A outer s H vs E x h a hr i wh _ hv => ?_
  obtain rfl := dpA0 hv
  refine ⟨_, (pss_one (ps_ret (pe_and (pe_cmpR op_eq (pe_fld (pv 0) rfl) pe_str (nomark _)) (pe_one (pe_cmpR op_ge (pe_callB call_lenD (by rfl) T.b_len PySem.boot_len (pa_cons (pe_fld (pv 0) rfl) pa_nil)) (pe_k C_most_of (hr.mono (by decide)) (by rfl) T.g_most_of (pa_cons (pe_fld (pv 0) rfl) pa_nil)) (nomark _)))))), fun D q => ?_⟩
  obtain ⟨kvs, k1, k2⟩ := i.r.tak
  have hl := drep_len k2
  have elen : EvD K (tCB (fun xs H Q => ∃ a kvs, xs = [V.ref a] ∧ H a = some (.dK kvs) ∧ Q (.int kvs.length) H) (tCons (tFld K (tVar 0) "taken") tNil)) (start ["self"] [.ref x.p]) H (.int (h.taken.length : Int)) := fun H1 e Q k =>
    ev_taken T.cls i T.a_taken (rfl) H1 e _ fun H2 e2 => ⟨x.tak, kvs, rfl, e2 _ _ (e _ _ k1), by rw [hl]; exact k _ H2 e2 (.int _)⟩
  refine s_retD ((evd_and (evd_op (evd_role T.cls i T.a_own_role) evd_str (rd_eqS (a := roleS h.role) (b := "leads"))) fun _ => evd_op elen (evd_F h.mem trivial (eds_one (evd_members T.cls i T.a_own_members))) (rd_I0 (z := .bool (decide ((most h.mem.length : Int) ≤ (h.taken.length : Int)))) fun H => .bl _)).to ?_) q
  rw [role_leads]
  unfold House.settled
  by_cases c : most h.mem.length ≤ h.taken.length
  · rw [decide_eq_true c, decide_eq_true (show (most h.mem.length : Int) ≤ (h.taken.length : Int) by omega)]
  · rw [decide_eq_false c, decide_eq_false (show ¬ (most h.mem.length : Int) ≤ (h.taken.length : Int) by omega)]
abbrev spRow (K : PySem.W.Frag) : Sp := spPN K e0 pre0 (fun h _ => h.row.map dT)
theorem sc_H_row : FnScope ["self"] ["self"] (defScope m_row) := ⟨rfl, rfl, rfl, by decide +kernel, rfl, by decide +kernel, by decide +kernel⟩
theorem ok_row (T : TX w K mg) : Cal P w K mg base 1 (He.ma K (CH K) "row") ["self"] (spRow K) [] := by
  refine cal_PN T 62 (d := e_row) rfl rfl rfl sc_H_row (fun _ => rfl) (fun _ _ _ _ _ _ us hl => match us, hl with | [_], _ => rfl) fun cdv A outer s H vs E x h a hr i wh _ hv => ?_
  obtain rfl := dpA0 hv
  exact ⟨_, (pss_one (ps_ret (pe_callTy call_list_of (by rfl) T.b_list bt_list (pa_cons (pe_fld (pv 0) rfl) pa_nil)))), fun D q => s_retN (evn_listOf (evd_row T.cls i T.a_own_row)) q⟩
abbrev spDoneRow (K : PySem.W.Frag) : Sp := spPN K e0 pre0 (fun h _ => h.doneRow.map dT)
theorem sc_H_done_row : FnScope ["self"] ["self"] (defScope m_done_row) := ⟨rfl, rfl, rfl, by decide +kernel, rfl, by decide +kernel, by decide +kernel⟩
theorem ok_done_row (T : TX w K mg) : Cal P w K mg base 2 (He.ma K (CH K) "done_row") ["self"] (spDoneRow K) [] := by
  have C_up_to := ok_up_to (P := P) (base := base) T
  refine cal_PN T 63 (d := e_done_row) rfl rfl rfl sc_H_done_row (fun _ => rfl) (fun _ _ _ _ _ _ us hl => match us, hl with | [_], _ => rfl) fun cdv A outer s H vs E x h a hr i wh _ hv => ?_
  obtain rfl := dpA0 hv
  exact ⟨_, (pss_one (ps_ret (pe_k C_up_to (hr.mono (by decide)) (by rfl) T.g_up_to (pa_cons (pe_fld (pv 0) rfl) (pa_cons (pe_fld (pv 0) rfl) pa_nil))))), fun D q => s_retN (evn_F (h.row, h.done) (by have := wh.row; show h.row.length < 100000; omega) (eds_cons (evd_row T.cls i T.a_own_row) (eds_one (evd_done T.cls i T.a_own_done)))) q⟩
end
end Wn

set_option Elab.async false
set_option linter.all false
set_option maxRecDepth 100000
set_option maxHeartbeats 4000000
/-! methods (3). -/
namespace Wn
open PySem PySem.Spec PyProof.Rows L2
open Zab hiding World Place Row
section
variable {P : Program} {w : World} {K : PySem.W.Frag} {mg : Str → Option Value} {base : Heap}
abbrev spAnew (K : PySem.W.Frag) : Sp := spU K e0 pre0 (fun h _ => h.beginAnew)
theorem sc_H_begin_anew : FnScope ["self"] ["self"] (defScope m_begin_anew) := ⟨rfl, rfl, rfl, by decide +kernel, rfl, by decide +kernel, by decide +kernel⟩
theorem ok_begin_anew (T : TX w K mg) : Cal P w K mg base 3 (He.ma K (CH K) "begin_anew") ["self"] (spAnew K) [] := by
  have C_first_state := ok_first_state (P := P) (base := base) T
  have M_stand_down := ok_stand_down (P := P) (base := base) T
  refine cal_U T 32 (d := e_begin_anew) rfl rfl rfl sc_H_begin_anew (fun _ => rfl) (fun _ _ _ _ _ _ us hl => match us, hl with | [_], _ => rfl) fun cdv A outer s H vs E x h a hr i wh _ hv => ?_
  obtain rfl := dpA0 hv
  refine ⟨_, (pss_cons (ps_fld (pv 0) (pe_gR (by rfl) T.g_NOWHERE) rfl)
    (pss_cons (ps_fld (pv 0) (pe_k0 C_first_state (hr.mono (by decide)) (by rfl) T.g_first_state) rfl)
    (pss_cons (ps_fld (pv 0) (pe_lst pa_nil) rfl)
    (pss_one (ps_expr (pe_m0 T.cls T.m_stand_down M_stand_down (hr.mono (by decide)) (pv 0))))))), fun D q => ?_⟩
  refine q_fldDone (p := (0, 0)) (by rfl) T.cls T.a_own_done i (evd_c (T.nowhere H)) fun H1 a1 i1 t1 => ?_
  refine q_fldState (by rfl) T.cls T.a_own_state i1 (by exact fun Q k => c_call0 ⟨rfl, fun a n s H' e S => k a n s H' e S⟩) fun H2 a2 n2 s2 i2 t2 => ?_
  refine q_fldFresh (by rfl) T.cls T.a_fresh i2 (evn_lst eds_nil) fun H3 a3 i3 t3 => ?_
  refine c_U (m := "stand_down") i3 ⟨wh.row, wh.ent, Nat.zero_le _, wh.prom, wh.tak, wh.mem⟩ () trivial eds_nil rfl (by kernel_rfl) fun x' H' i' t' => ?_
  exact q x' H' _ i' (((t1.trans t2).trans t3).trans t')
abbrev spFollow (K : PySem.W.Frag) : Sp := spU K (fun o : Nat => [dN o]) pre0 (fun h o => h.follow o)
theorem sc_H_follow : FnScope ["self", "other"] ["self", "other"] (defScope m_follow) := ⟨rfl, rfl, rfl, by decide +kernel, rfl, by decide +kernel, by decide +kernel⟩
theorem scal_opt (o : Option Nat) (n : Nat) : scal (optN o) (.str (nS n)) = true := by cases o <;> rfl
theorem opt_eq (o : Option Nat) (n : Nat) : (!decide (optN o = .str (nS n))) = decide (o ≠ some n) := by
  cases o with
  | none =>
    have : ¬ (optN none = .str (nS n)) := fun z => by cases z
    rw [decide_eq_false this]
    exact (decide_eq_true (fun z => by cases z)).symm
  | some m =>
    by_cases c : m = n
    · subst c
      rw [decide_eq_true (show optN (some m) = .str (nS m) from rfl)]
      exact (decide_eq_false (fun z => z rfl)).symm
    · rw [decide_eq_false (show ¬ (optN (some m) = .str (nS n)) from fun z => c (nS_inj.mp (V.str.inj z)))]
      show true = _
      simp [c]
theorem ok_follow (T : TX w K mg) : Cal P w K mg base 2 (He.ma K (CH K) "follow") ["self", "other"] (spFollow K) [] := by
  have M_stand_down := ok_stand_down (P := P) (base := base) T
  refine cal_U T 44 (d := e_follow) rfl rfl rfl sc_H_follow (fun _ => rfl) (fun _ _ _ _ _ _ us hl => match us, hl with | [_, _], _ => rfl) fun cdv A outer s H vs E x h o hr i wh _ hv => ?_
  obtain ⟨v, rfl, hd⟩ := dpA1 hv
  have hv := dp_str hd
  subst hv
  refine ⟨_, (pss_cons (ps_if (pt_cmpR op_ne (pe_fld (pv 0) rfl) (pv 1) (nomark _)) (pss_one (ps_expr (pe_m0 T.cls T.m_stand_down M_stand_down (hr.mono (by decide)) (pv 0)))) pss_nil)
    (pss_cons (ps_fld (pv 0) pe_str rfl)
    (pss_one (ps_fld (pv 0) (pv 1) rfl)))), fun D q => ?_⟩
  have fin : ∀ (x1 : HX) (h1 : House) (H1 : Hp), HAt K H1 x1 h1 → To x H x1 H1 → h.follow o = { h1 with role := .follows, head := some o } → tSeq (sFld K (tVar 0) (tC (.str "follows")) "own_role") (sFld K (tVar 0) (tVar 1) "own_head") D (start ["self", "other"] [.ref x1.p, .str (nS o)]) H1 := fun x1 h1 H1 i1 t1 e => by
    refine q_fldV (h' := { h1 with role := .follows }) (by rfl) T.cls T.a_own_role i1 Evl.ev_c (p_role (r := .follows)) (i1.r.of) fun H2 i2 t2 => ?_
    refine s_fldV (h' := { h1 with role := .follows, head := some o }) (by rfl) T.cls T.a_own_head i2 (ev_var (by rfl)) (p_head (o := some o)) (i2.r.of) fun H3 i3 t3 => ?_
    refine q _ _ _ ?_ ((t1.trans t2).trans t3)
    rw [e]
    exact i3
  refine Evl.q_when (b := decide (h.head ≠ some o)) (Evl.et_is (Evl.et_test (Evl.ev_op (z := .bl (!decide (optN h.head = .str (nS o)))) (ev_f T.cls T.a_own_head i l_head) (ev_var (by rfl)) fun H1 _ Q k => ⟨scal_opt _ _, k H1 (Evl.Ex.refl _)⟩)) (opt_eq _ _)) (fun c H1 e1 => ?_) fun c H1 e1 => ?_
  · have c := of_decide_eq_true c
    refine c_U (m := "stand_down") (k := fun _ H' => tSeq (sFld K (tVar 0) (tC (.str "follows")) "own_role") (sFld K (tVar 0) (tVar 1) "own_head") D (start ["self", "other"] [.ref x.p, .str (nS o)]) H') (i.ex e1) wh () trivial eds_nil rfl (by kernel_rfl) fun x' H' i' t' => ?_
    have t1 := (To.ex x e1).trans t'
    rw [← t1.p]
    exact fin x' _ H' i' t1 (by unfold House.follow; rw [if_neg c])
  · have c : h.head = some o := by
      have := of_decide_eq_false c
      exact Classical.not_not.mp this
    exact fin x h H1 (i.ex e1) (To.ex x e1) (by unfold House.follow; rw [if_pos c])
abbrev spSyncBy (K : PySem.W.Frag) : Sp := spP K (fun a : Nat × Nat × Place => [dN a.1, .str (wayS a.2.1), dP a.2.2]) pre0 (fun h a => dL (h.syncBy a.1 a.2.1 a.2.2))
theorem sc_H_sync_by : FnScope ["self", "other", "way", "base", "things"] ["self", "other", "way", "base"] (defScope m_sync_by) := ⟨rfl, rfl, rfl, by decide +kernel, rfl, by decide +kernel, by decide +kernel⟩
theorem ok_sync_by (T : TX w K mg) : Cal P w K mg base 2 (He.ma K (CH K) "sync_by") ["self", "other", "way", "base"] (spSyncBy K) [] := by
  have C_behind := ok_behind (P := P) (base := base) T
  have M_say := (ok_say (P := P) (base := base) T).1
  refine cal_P T 45 (d := e_sync_by) rfl rfl rfl sc_H_sync_by (fun _ => rfl) (fun _ _ _ _ _ _ us hl => match us, hl with | [_, _, _, _], _ => rfl) fun cdv A outer s H vs E x h a hr i wh _ hv => ?_
  obtain ⟨o, n, b⟩ := a
  obtain ⟨v1, v2, v3, rfl, h1, h2, h3⟩ := dpA3 hv
  refine ⟨_, (pss_cons (ps_asg (pe_callTy call_tuple_of (by rfl) T.b_tuple bt_tuple (pa_cons (pe_k C_behind (hr.mono (by decide)) (by rfl) T.g_behind (pa_cons (pe_fld (pv 0) rfl) (pa_cons (pv 3) pa_nil))) pa_nil)) (pg_name (i := 4) sc_H_sync_by.nd rfl (by first | exact Or.inl rfl | exact Or.inr rfl)))
    (pss_one (ps_ret (pe_m T.cls T.m_say M_say (hr.mono (by decide)) (pv 0) (pa_cons pe_str (pa_cons (pv 1) (pa_cons (pe_fld (pv 0) rfl) (pa_cons (pe_tup (pa_cons (pv 2) (pa_cons (pv 3) (pa_cons (pv 4) (pa_cons (pe_fld (pv 0) rfl) pa_nil))))) pa_nil)))))))), fun D q => ?_⟩
  refine q_asgD (evd_tupOf (evn_F (h.row, b) (by have := wh.row; show h.row.length < 100000; omega) (eds_cons (evd_row T.cls i T.a_own_row) (eds_one (evd_var h3)))).d) fun v H1 e1 d1 => ?_
  have i1 := i.ex e1
  exact s_retD (evd_say (.sync n b (behind h.row b) h.done) i1 wh (eds_cons evd_str (eds_cons (evd_var (dp_ex e1 h1)) (eds_cons (evd_epoch T.cls i1 T.a_own_epoch) (eds_one (evd_tup (eds_cons (evd_var (dp_ex e1 h2)) (eds_cons (evd_var (dp_ex e1 h3)) (eds_cons (evd_var d1) (eds_one (evd_done T.cls i1 T.a_own_done))))) (by show 4 ≤ 100000; decide)))))))
    fun v H2 e2 d => q v H2 (e1.trans e2) d
abbrev spSyncFor (K : PySem.W.Frag) : Sp := spP K (fun o : Nat => [dN o]) (fun h o => dhas h.promises o = true) (fun h o => dL (h.syncFor o))
theorem sc_H_sync_for : FnScope ["self", "other", "last", "lesser", "place", "entry"] ["self", "other"] (defScope m_sync_for) := ⟨rfl, rfl, rfl, by decide +kernel, rfl, by decide +kernel, by decide +kernel⟩
theorem ok_sync_for (T : TX w K mg) : Cal P w K mg base 3 (He.ma K (CH K) "sync_for") ["self", "other"] (spSyncFor K) [] := by
  have M_has := ok_has (P := P) (base := base) T
  have M_sync_by := ok_sync_by (P := P) (base := base) T
  refine cal_P T 46 (d := e_sync_for) rfl rfl rfl sc_H_sync_for (fun _ => rfl) (fun _ _ _ _ _ _ us hl => match us, hl with | [_, _], _ => rfl) fun cdv A outer s H vs E x h o hr i wh hp hv => ?_
  obtain ⟨v, rfl, hd⟩ := dpA1 hv
  obtain ⟨l, hl⟩ : ∃ l, dget h.promises o = some l := Option.isSome_iff_exists.mp hp
  obtain ⟨kvs, k1, k2⟩ := i.r.prom
  refine ⟨_, (pss_cons (ps_asg (pe_dget (u1 hr) (pe_fld (pv 0) rfl) (pv 1) (fun _ _ => rfl)) (pg_name (i := 2) sc_H_sync_for.nd rfl (by first | exact Or.inl rfl | exact Or.inr rfl)))
    (pss_cons (ps_if (pt_val (pe_m T.cls T.m_has M_has (hr.mono (by decide)) (pv 0) (pa_cons (pv 2) pa_nil))) (pss_one (ps_ret (pe_m T.cls T.m_sync_by M_sync_by (hr.mono (by decide)) (pv 0) (pa_cons (pv 1) (pa_cons pe_str (pa_cons (pv 2) pa_nil)))))) pss_nil)
    (pss_cons (ps_setLc (i := 3) (own := [("place", 4), ("entry", 5)]) (g := gTup K 2 (gCons (gName 4) (gCons (gName 5) gNil))) (by rfl) sc_H_sync_for.nd rfl rfl (sw_true rfl rfl rfl (by decide +kernel)) (pi_list (pe_fld (pv 0) rfl)) (blkOk_by (own := [("place", 4), ("entry", 5)]) (N := ["self", "other", "last", "lesser", "place", "entry"]) (sc := defScope m_sync_for) (by decide +kernel)) (fun _ _ _ _ _ => pg_tup rfl (pgs_cons (pg_name (i := 4) sc_H_sync_for.nd rfl (Or.inl rfl)) (pgs_cons (pg_name (i := 5) sc_H_sync_for.nd rfl (Or.inl rfl)) pgs_nil))) (fun _ _ _ _ _ => (pts_one (pt_cmpR (r := rLtT K) (op_ltT hr.units0) (pv 4) (pv 2) (nomark _)))) (fun _ _ _ _ _ => (pv 4)))
    (pss_cons (ps_if (pt_cmpR (op_neD (hr.units)) (pv 3) (pe_lst pa_nil) (nomark _)) (pss_one (ps_ret (pe_m T.cls T.m_sync_by M_sync_by (hr.mono (by decide)) (pv 0) (pa_cons (pv 1) (pa_cons pe_str (pa_cons (pe_ix ix_list (pv 3) (pe_un un_neg pe_int) (fun _ _ => rfl)) pa_nil)))))) pss_nil)
    (pss_one (ps_ret (pe_m T.cls T.m_sync_by M_sync_by (hr.mono (by decide)) (pv 0) (pa_cons (pv 1) (pa_cons pe_str (pa_cons (pe_gR (by rfl) T.g_NOWHERE) pa_nil)))))))))), fun D q => ?_⟩
  refine q_asgD (evd_dget (evd_var hd) (ev_promises T.cls i T.a_promises (by rfl)) k1 k2 hl) fun v1 H1 e1 d1 => ?_
  have i1 := i.ex e1
  have hd1 := dp_ex e1 hd
  have e0 : (dget h.promises o).getD (0, 0) = l := by rw [hl]; rfl
  refine Evl.q_when (b := hasP h.row l) (et_b (evd_P (m := "has") i1 wh l trivial (eds_one (evd_var d1)) (by rfl) (by kernel_rfl))) (fun c H2 e2 => ?_) fun c H2 e2 => ?_
  · have i2 := i1.ex e2
    refine s_retD ((evd_P (m := "sync_by") (res := fun h (a : Nat × Nat × Place) => dL (h.syncBy a.1 a.2.1 a.2.2)) i2 wh (o, 0, l) trivial (eds_cons (evd_var (dp_ex e2 hd1)) (eds_cons evd_str (eds_one (evd_var (dp_ex e2 d1))))) (by rfl) (by kernel_rfl)).to ?_) fun v H3 e3 d => q v H3 ((e1.trans e2).trans e3) d
    unfold House.syncFor
    rw [e0]
    simp only [c, if_true]
  · have i2 := i1.ex e2
    have hd2 := dp_ex e2 hd1
    refine q_asgN (evn_lc2 (g1 := fun t : Thing => dP t.1) (g2 := fun t => dE t.2) (fun t => decide (Plt t.1 l)) (fun t => dP t.1) (evd_row T.cls i2 T.a_own_row) (by have := wh.row; omega) (fun _ _ => imm_dP _) (fun t _ v w H3 e h1 h2 => et_t (evd_op (evd_var h1) (evd_var (dp_ex (e2.trans e) d1)) rd_ltP)) fun t _ v w H1 e h1 h2 _ => evd_var h1) fun p H3 hp3 e3 l3 => ?_
    have e4 : (h.row.filter fun t => decide (Plt t.1 l)).map (fun t => dP t.1) = ((places h.row).filter fun p => decide (Plt p l)).map dP := by
      unfold places
      rw [List.filter_map, List.map_map]
      rfl
    rw [e4] at l3
    have i3 := i2.ex e3
    have hd3 := dp_ex e3 hd2
    have dl := l3.dp
    refine Evl.q_when (b := !((places h.row).filter fun p => decide (Plt p l)).isEmpty) (et_to (et_t (evd_op (evd_var dl) (evn_lst eds_nil).d (rd_neD (ShpA.map fun p _ => shp_dP p).lst (ShpA.nil 0).lst))) (by rw [eqv_nil, List.isEmpty_map])) (fun c2 H4 e5 => ?_) fun c2 H4 e5 => ?_
    · have i4 := i3.ex e5
      cases hb : ((places h.row).filter fun p => decide (Plt p l)).getLast? with
      | none => rw [List.getLast?_eq_none_iff.mp hb] at c2; cases c2
      | some b =>
        refine s_retD ((evd_P (m := "sync_by") (res := fun h (a : Nat × Nat × Place) => dL (h.syncBy a.1 a.2.1 a.2.2)) i4 wh (o, 1, b) trivial (eds_cons (evd_var (dp_ex e5 hd3)) (eds_cons evd_str (eds_one (evd_op (evd_var (dp_ex e5 dl)) evd_neg (rd_ixL (d := dP b) (atI_last (by rw [List.getLast?_map, hb]; rfl))))))) (by rfl) (by kernel_rfl)).to ?_) fun v H5 e6 d => q v H5 ((((e1.trans e2).trans e3).trans e5).trans e6) d
        unfold House.syncFor
        rw [e0]
        simp only [c, Bool.false_eq_true, if_false, hb]
    · have i4 := i3.ex e5
      have hb : ((places h.row).filter fun p => decide (Plt p l)).getLast? = none := by
        have : ((places h.row).filter fun p => decide (Plt p l)).isEmpty = true := by
          cases z : ((places h.row).filter fun p => decide (Plt p l)).isEmpty with
          | true => rfl
          | false => rw [z] at c2; cases c2
        rw [List.isEmpty_iff.mp this]
        rfl
      refine s_retD ((evd_P (m := "sync_by") (res := fun h (a : Nat × Nat × Place) => dL (h.syncBy a.1 a.2.1 a.2.2)) i4 wh (o, 2, (0, 0)) trivial (eds_cons (evd_var (dp_ex e5 hd3)) (eds_cons evd_str (eds_one (evd_c (T.nowhere _))))) (by rfl) (by kernel_rfl)).to ?_) fun v H5 e6 d => q v H5 ((((e1.trans e2).trans e3).trans e5).trans e6) d
      unfold House.syncFor
      rw [e0]
      simp only [c, Bool.false_eq_true, if_false, hb]
end
end Wn

set_option Elab.async false
set_option linter.all false
set_option maxRecDepth 100000
set_option maxHeartbeats 4000000
/-! methods (4): beat_for, go_on_to. -/
namespace Wn
open PySem PySem.Spec PyProof.Rows L2
open Zab hiding World Place Row
def lastP (p : Place) (r : Row) : Place := (r.getLast?.map (·.1)).getD p
theorem chain_snoc (h : House) (o : Nat) (t : Thing) : ∀ (r : Row) (p : Place), h.chain o p (r ++ [t]) = h.chain o p r ++ [⟨h.nm, o, h.epoch, .propose (lastP p r) t.1 t.2⟩]
  | [], p => rfl
  | u :: r, p => by
    show _ :: h.chain o u.1 (r ++ [t]) = _ :: (h.chain o u.1 r ++ _)
    rw [chain_snoc h o t r u.1]
    congr 2
    unfold lastP
    cases r with
    | nil => rfl
    | cons a b => rw [List.getLast?_cons_cons]; cases z : (a :: b).getLast? with
      | none => simp at z
      | some q => rfl
theorem lastP_snoc (p : Place) (r : Row) (t : Thing) : lastP p (r ++ [t]) = t.1 := by unfold lastP; rw [List.getLast?_append]; rfl
theorem chain_len (h : House) (o : Nat) : ∀ (r : Row) (p : Place), (h.chain o p r).length = r.length
  | [], _ => rfl
  | t :: r, p => by show (h.chain o t.1 r).length + 1 = _; rw [chain_len h o r t.1]; rfl
section
variable {P : Program} {w : World} {K : PySem.W.Frag} {mg : Str → Option Value} {base : Heap}
theorem c_asg1 {te : TE} {g : TG} {D : Ends} {σ : L2.St} {H : Hp} (h : te σ H fun v H1 => g v σ H1 D.nx) : tAsg te g D σ H := h
theorem c_drop1 {te : TE} {D : Ends} {σ : L2.St} {H : Hp} (h : te σ H fun _ H1 => D.nx σ H1) : tDrop te D σ H := h
theorem c_drop {te : TE} {tz : TS} {D : Ends} {σ : L2.St} {H : Hp} (h : te σ H fun _ H1 => tz D σ H1) : tSeq (tDrop te) tz D σ H := h
theorem c_app {to : TE} {ta : TA} {σ : L2.St} {H : Hp} {k : VK} {K : PySem.W.Frag} {l : Addr} {xs : List V} (hp : Evl.Ev to σ H (.ref l)) (hl : H l = some (.lst xs)) (ha : ∀ H1, Ex H H1 → ta σ H1 fun vs H2 => rAppend (.ref l) vs H2 k) : tBM K "list" rAppend to ta σ H k :=
  hp H (Evl.Ex.refl H) _ fun H1 e => ⟨.inl ⟨rfl, xs, .of (e _ _ hl)⟩, ha H1 e⟩
theorem c_appD {to : TE} {ta : TA} {σ : L2.St} {H : Hp} {k : VK} {K : PySem.W.Frag} {l : Addr} {xs : List V} {d : PyData} (hp : Evl.Ev to σ H (.ref l)) (hl : H l = some (.lst xs)) (hz : xs.length < 16000000) (he : EvDs K ta σ H [d])
    (q : ∀ y H2, Ex H H2 → Dp K H2 y d → k .non (upd H2 l (.lst (xs ++ [y])))) : tBM K "list" rAppend to ta σ H k :=
  c_app hp hl fun H1 e => he H1 e _ fun vs H2 e2 hv => by
    obtain ⟨y, rfl, d⟩ := dpA1 hv
    exact ⟨l, xs, y, rfl, rfl, (e.trans e2) _ _ hl, by rw [sizeLine_eq]; omega, q y H2 (e.trans e2) d⟩
theorem tups_upd {H : Hp} {l : Addr} {xs : List V} {o : HO} (hl : H l = some (.lst xs)) : Tups H (upd H l o) := fun b ys hb => by rw [upd_ne (ne_of hb hl (by intro z; cases z))]; exact hb
theorem frz_upd {H : Hp} {l : Addr} {xs : List V} {o : HO} (hl : H l = some (.lst xs)) : Frz H (upd H l o) := fun b u v hb => by rw [upd_ne (ne_of hb hl (by intro z; cases z))]; exact hb
/-- the house stands where a list that isn't its own is written -/
theorem HAt.far {K : PySem.W.Frag} {H : Hp} {x : HX} {h : House} {l : Addr} {xs ys : List V} (i : HAt K H x h) (hl : H l = some (.lst xs)) (no : ¬ Own x l) : HAt K (L2.upd H l (.lst ys)) x h := by
  have tu := tups_upd (o := .lst ys) hl
  have fr := frz_upd (o := .lst ys) hl
  have k : ∀ b o, H b = some o → Own x b → L2.upd H l (.lst ys) b = some o := fun b o hb ow => by rw [upd_ne (fun z => no (by rw [← z]; exact ow))]; exact hb
  exact ⟨k _ _ i.ob (.inl rfl), i.r.stay tu fr (fun b o hb ow _ => k b o hb ow) i.np⟩
abbrev spBeatFor (K : PySem.W.Frag) : Sp := spPN K (fun o : Nat => [dN o]) pre0 (fun h o => (h.beatFor o).map dL)
theorem sc_H_beat_for : FnScope ["self", "other", "prior", "letters", "place", "entry"] ["self", "other"] (defScope m_beat_for) := ⟨rfl, rfl, rfl, by decide +kernel, rfl, by decide +kernel, by decide +kernel⟩
theorem ok_beat_for (T : TX w K mg) : Cal P w K mg base 4 (He.ma K (CH K) "beat_for") ["self", "other"] (spBeatFor K) [] := by
  have C_behind := ok_behind (P := P) (base := base) T
  have M_say := (ok_say (P := P) (base := base) T).1
  have M_say3 := (ok_say (P := P) (base := base) T).2
  have M_sync_for := ok_sync_for (P := P) (base := base) T
  refine cal_PN T 50 (d := e_beat_for) rfl rfl rfl sc_H_beat_for (fun _ => rfl) (fun _ _ _ _ _ _ us hl => match us, hl with | [_, _], _ => rfl) fun cdv A outer s H vs E x h o hr i wh _ hv => ?_
  obtain ⟨v, rfl, hd⟩ := dpA1 hv
  have hv := dp_str hd
  subst hv
  obtain ⟨kp, kp1, kp2⟩ := i.r.prom
  obtain ⟨kt, kt1, kt2⟩ := i.r.tak
  refine ⟨_, (pss_cons (ps_if (pt_cmp (pc_dnotin (u1 hr) (pv 1) (pe_fld (pv 0) rfl))) (pss_one (ps_ret (pe_lst (pa_cons (pe_m T.cls T.m_say M_say3 (hr.mono (by decide)) (pv 0) (pa_cons pe_str (pa_cons (pv 1) (pa_cons (pe_fld (pv 0) rfl) pa_nil)))) pa_nil)))) pss_nil)
    (pss_cons (ps_if (pt_cmp (pc_dnotin (u1 hr) (pv 1) (pe_fld (pv 0) rfl))) (pss_one (ps_ret (pe_lst (pa_cons (pe_m T.cls T.m_sync_for M_sync_for (hr.mono (by decide)) (pv 0) (pa_cons (pv 1) pa_nil)) pa_nil)))) pss_nil)
    (pss_cons (ps_asg (pe_dget (u1 hr) (pe_fld (pv 0) rfl) (pv 1) (fun _ _ => rfl)) (pg_name (i := 2) sc_H_beat_for.nd rfl (by first | exact Or.inl rfl | exact Or.inr rfl)))
    (pss_cons (ps_asg (pe_lst pa_nil) (pg_name (i := 3) sc_H_beat_for.nd rfl (by first | exact Or.inl rfl | exact Or.inr rfl)))
    (pss_cons (ps_for PassesOwn.never rfl (pi_list (pe_k C_behind (hr.mono (by decide)) (by rfl) T.g_behind (pa_cons (pe_fld (pv 0) rfl) (pa_cons (pv 2) pa_nil)))) (pg_tup rfl (pgs_cons (pg_name (i := 4) sc_H_beat_for.nd rfl (by first | exact Or.inl rfl | exact Or.inr rfl)) (pgs_cons (pg_name (i := 5) sc_H_beat_for.nd rfl (by first | exact Or.inl rfl | exact Or.inr rfl)) pgs_nil))) (pss_cons (ps_expr (pe_bm PySem.F.plainAttrs_list PySem.F.slot_list_append PySem.F.type_list_append mt_append (pv 3) (pa_cons (pe_m T.cls T.m_say M_say (hr.mono (by decide)) (pv 0) (pa_cons pe_str (pa_cons (pv 1) (pa_cons (pe_fld (pv 0) rfl) (pa_cons (pe_tup (pa_cons (pv 2) (pa_cons (pv 4) (pa_cons (pv 5) pa_nil)))) pa_nil))))) pa_nil)))
    (pss_one (ps_asg (pv 4) (pg_name (i := 2) sc_H_beat_for.nd rfl (by first | exact Or.inl rfl | exact Or.inr rfl))))))
    (pss_one (ps_ret (pe_op op_cat (pv 3) (pe_lst (pa_cons (pe_m T.cls T.m_say M_say (hr.mono (by decide)) (pv 0) (pa_cons pe_str (pa_cons (pv 1) (pa_cons (pe_fld (pv 0) rfl) (pa_cons (pe_tup (pa_cons (pe_fld (pv 0) rfl) pa_nil)) pa_nil))))) pa_nil)))))))))), fun D q => ?_⟩
  refine Evl.q_when (b := !dhas h.promises o) (et_b (evd_dnotin (evd_var (i := 1) hd (by rfl)) (ev_promises T.cls i T.a_promises (by rfl)) kp1 kp2)) (fun c H1 e1 => ?_) fun c H1 e1 => ?_
  · have i1 := i.ex e1
    refine s_retN (ds := [dL ⟨h.nm, o, h.epoch, .lead⟩]) (evn_lst (eds_one (evd_say3 T .lead rfl i1 wh (eds_cons evd_str (eds_cons (evd_var (i := 1) (dp_ex e1 hd) (by rfl)) (eds_one (evd_epoch T.cls i1 T.a_own_epoch (by rfl))))) (by rfl))) (by show 1 ≤ 100000; decide)) fun p H2 hp e2 l => q p H2 (Evl.fresh_back e1 hp) (e1.trans e2) ?_
    unfold House.beatFor
    rw [if_pos c]
    exact l
  · have i1 := i.ex e1
    have hp : dhas h.promises o = true := by cases z : dhas h.promises o with | true => rfl | false => rw [z] at c; cases c
    refine Evl.q_when (b := !dhas h.taken o) (et_b (evd_dnotin (evd_var (i := 1) (dp_ex e1 hd) (by rfl)) (ev_taken T.cls i1 T.a_taken (by rfl)) (e1 _ _ kt1) (drep_keep (ex_tups e1) (ex_frz e1) kt2))) (fun c2 H2 e2 => ?_) fun c2 H2 e2 => ?_
    · have i2 := i1.ex e2
      refine s_retN (ds := [dL (h.syncFor o)]) (evn_lst (eds_one (evd_P (m := "sync_for") (res := fun h (o : Nat) => dL (h.syncFor o)) i2 wh o hp (eds_one (evd_var (i := 1) (dp_ex (e1.trans e2) hd) (by rfl))) (by rfl) (by kernel_rfl))) (by show 1 ≤ 100000; decide)) fun p H3 hp e3 l => q p H3 (Evl.fresh_back (e1.trans e2) hp) ((e1.trans e2).trans e3) ?_
      unfold House.beatFor
      rw [if_neg (by rw [c]; exact Bool.false_ne_true)]
      have : dget h.taken o = none := by
        cases z : dget h.taken o with
        | none => rfl
        | some p => unfold dhas at c2; rw [z] at c2; cases c2
      rw [this]
      exact l
    · have i2 := i1.ex e2
      have E2 := e1.trans e2
      have ht : dhas h.taken o = true := by cases z : dhas h.taken o with | true => rfl | false => rw [z] at c2; cases c2
      obtain ⟨p, hpt⟩ : ∃ p, dget h.taken o = some p := Option.isSome_iff_exists.mp ht
      refine q_asgD (evd_dget (evd_var (i := 1) (dp_ex E2 hd) (by rfl)) (ev_taken T.cls i2 T.a_taken (by rfl)) (E2 _ _ kt1) (drep_keep (ex_tups E2) (ex_frz E2) kt2) hpt) fun v2 H3 e3 d3 => ?_
      refine q_asgN (K := K) (evn_lst eds_nil) fun p0 H4 hp0 e4 l4 => ?_
      simp only [L2.start, List.map_cons, List.map_nil, List.length_cons, List.length_nil, List.replicate_succ, List.replicate_zero, List.cons_append, List.nil_append, List.set_cons_zero, List.set_cons_succ, Nat.reduceAdd, Nat.reduceSub]
      obtain ⟨as0, l4a, l4b⟩ := l4
      obtain rfl := dpA0 l4b
      have i4 := (i2.ex e3).ex e4
      have E4 := (E2.trans e3).trans e4
      have d4 := dp_ex e4 d3
      -- for place, entry in behind(self.own_row, prior)
      refine c_for (evn_F (h.row, p) (by have := wh.row; show h.row.length < 100000; omega) (eds_cons (evd_row T.cls i4 T.a_own_row (by rfl)) (eds_one (evd_var d4 (by rfl)))) H4 (Evl.Ex.refl _) _ fun b H5 hb e5 l5 => ?_)
      obtain ⟨ws, l5a, l5b⟩ := l5
      have hwl : ws.length = (behind h.row p).length := by rw [dpA_len l5b, List.length_map]
      have hlen : (behind h.row p).length ≤ 2000 := Nat.le_trans (List.length_filter_le _ _) wh.row
      have nb : b ≠ p0 := fun z => by rw [z, l4a] at hb; cases hb
      have hp0H : H p0 = none := Evl.fresh_back (E2.trans e3) hp0
      have no : ¬ Own x p0 := i.new hp0H
      refine ⟨b, rfl, ⟨ws, .of l5a⟩, for_list (xs := ws) (fun k σ H' => ∃ pv y z acc, σ = [some (.ref x.p), some (.str (nS o)), some pv, some (.ref p0), y, z] ∧ Ex H H' ∧ HAt K H' x h ∧ H' b = some (.lst ws) ∧ DpAll K H' ws ((behind h.row p).map dT) ∧
        Dp K H' pv (dP (lastP p ((behind h.row p).take k))) ∧ H' p0 = some (.lst acc) ∧ DpAll K H' acc ((h.chain o p ((behind h.row p).take k)).map dL)) ⟨v2, _, _, [], rfl, E4.trans e5, i4.ex e5, l5a, l5b, dp_ex e5 d4, e5 _ _ l4a, .nil⟩ ?_ ?_ ?_⟩
      · rintro k σ H' _ ⟨pv, y, z, acc, rfl, a1, a2, a3, a4, a5, a6, a7⟩
        exact .of a3
      · rintro k xx σ H' hx ⟨pv, y, z, acc, rfl, a1, a2, a3, a4, a5, a6, a7⟩
        obtain ⟨dd, hd1, hxd⟩ := dpA_get' a4 hx
        rw [List.getElem?_map] at hd1
        obtain ⟨t, hte, rfl⟩ := Option.map_eq_some_iff.mp hd1
        refine g_pair (a := dP t.1) (b := dE t.2) hxd fun y1 y2 g1 g2 => ?_
        simp only [L2.start, List.map_cons, List.map_nil, List.length_cons, List.length_nil, List.replicate_succ, List.replicate_zero, List.cons_append, List.nil_append, List.set_cons_zero, List.set_cons_succ, Nat.reduceAdd, Nat.reduceSub]
        have hk : (behind h.row p).take (k + 1) = (behind h.row p).take k ++ [t] := by rw [List.take_add_one, hte]; rfl
        have hal : acc.length ≤ 2000 := by rw [dpA_len a7, List.length_map, chain_len, List.length_take]; omega
        refine c_drop (c_appD (d := dL ⟨h.nm, o, h.epoch, .propose (lastP p ((behind h.row p).take k)) t.1 t.2⟩) (ev_var (by rfl)) a6 (by omega) (eds_one ?_) fun yv H6 e6 d6 => ?_)
        · refine evd_say (.propose (lastP p ((behind h.row p).take k)) t.1 t.2) a2 wh ?_ (by rfl)
          refine eds_cons evd_str (eds_cons (evd_var (i := 1) (.str _) (by rfl)) (eds_cons (evd_epoch T.cls a2 T.a_own_epoch (by rfl)) (eds_one (evd_tup ?_ (by show 3 ≤ 100000; decide)))))
          exact eds_cons (evd_var a5 (by rfl)) (eds_cons (evd_var g1 (by rfl)) (eds_one (evd_var g2 (by rfl))))
        have b6 := e6 _ _ a6
        have tu := (ex_tups e6)
        have fr := (ex_frz e6)
        have tu2 := tups_upd (o := .lst (acc ++ [yv])) b6
        have fr2 := frz_upd (o := .lst (acc ++ [yv])) b6
        refine c_asg1 (c_var ?_)
        refine ⟨y1, _, _, acc ++ [yv], rfl, Evl.Ex.mut (a1.trans e6) hp0H, (a2.ex e6).far b6 no, by rw [upd_ne nb]; exact e6 _ _ a3, dpA_keep tu2 fr2 (imm_map imm_dT _) (dpA_ex e6 a4), ?_, upd_same, ?_⟩
        · rw [hk, lastP_snoc]
          exact dp_keep tu2 fr2 (imm_dP _) (dp_ex e6 g1)
        · rw [hk, chain_snoc, List.map_append]
          exact dpA_app (dpA_keep tu2 fr2 (imm_map imm_dL _) (dpA_ex e6 a7)) (dpA_one (dp_keep tu2 fr2 (imm_dL _) d6))
      · rintro σ H' ⟨pv, y, z, acc, rfl, a1, a2, a3, a4, a5, a6, a7⟩
        rw [hwl, List.take_length] at a7
        have es : EvN K (tLst (tCons (tMeth (CH K) "say" (spSay K) [] E0 (tVar 0) (tCons (tC (.str "done")) (tCons (tVar 1) (tCons (tFld K (tVar 0) "own_epoch") (tCons (tTup (tCons (tFld K (tVar 0) "own_done") tNil)) tNil))))) tNil)) [some (.ref x.p), some (.str (nS o)), some pv, some (.ref p0), y, z] H' [dL ⟨h.nm, o, h.epoch, .done h.done⟩] := by
          refine evn_lst (eds_one (evd_say (.done h.done) a2 wh ?_ (by rfl))) (by show 1 ≤ 100000; decide)
          exact eds_cons evd_str (eds_cons (evd_var (i := 1) (.str _) (by rfl)) (eds_cons (evd_epoch T.cls a2 T.a_own_epoch (by rfl)) (eds_one (evd_tup (eds_one (evd_done T.cls a2 T.a_own_done (by rfl))) (by show 1 ≤ 100000; decide)))))
        refine c_ret (c_rgl (c_var (i := 3) ?_ (by rfl)))
        refine es H' (Evl.Ex.refl _) _ fun p2 H7 hp2 e7 l7 => ?_
        obtain ⟨zs, z1, z2⟩ := l7
        have hz2 := dpA_len z2
        have hal : acc.length ≤ 2000 := by rw [dpA_len a7, List.length_map, chain_len]; omega
        refine ⟨p0, p2, acc, zs, rfl, rfl, e7 _ _ a6, z1, by rw [sizeLine_eq, hz2]; show acc.length + 1 ≤ _; omega, fun p3 hp3 => ?_⟩
        have e8 := Evl.Ex.new (o := HO.lst (acc ++ zs)) hp3
        refine q p3 _ (Evl.fresh_back (a1.trans e7) hp3) ((a1.trans e7).trans e8) ⟨_, upd_same, ?_⟩
        have : (h.beatFor o).map dL = (h.chain o p (behind h.row p)).map dL ++ [dL ⟨h.nm, o, h.epoch, .done h.done⟩] := by
          unfold House.beatFor
          rw [if_neg (by rw [c]; exact Bool.false_ne_true), hpt, List.map_append]
          rfl
        rw [this]
        exact dpA_app (dpA_ex (e7.trans e8) a7) (dpA_ex e8 z2)
end
end Wn

set_option Elab.async false
set_option linter.all false
set_option maxRecDepth 100000
set_option maxHeartbeats 4000000
/-! methods (5): go_on_to, look_done. -/
namespace Wn
open PySem PySem.Spec PyProof.Rows L2
open Zab hiding World Place Row
section
variable {K : PySem.W.Frag} {H H1 : Hp} {x : HX} {h : House}
/-- the store of a new state, told of the heap it leaves -/
theorem setState {σ : L2.St} {a n s : Addr} (h0 : σ[0]? = some (some (.ref x.p))) (cl : Cls K (CH K)) (na : NoAttr K (CH K) "own_state") (i : HAt K H x h) (e : Ex H H1) (z : StNew K H H1 a n s) :
    ∃ o, HAt K (upd H1 x.p o) { x with st := a, stn := n, sts := s } h ∧ To x H { x with st := a, stn := n, sts := s } (upd H1 x.p o) ∧ (∀ b u, H1 b = some u → b ≠ x.p → upd H1 x.p o b = some u) ∧ Tups H1 (upd H1 x.p o) ∧ Frz H1 (upd H1 x.p o) ∧ ∀ k : L2.St → Hp → Prop, k σ (upd H1 x.p o) → gFld K (tVar 0) "own_state" (.ref a) σ H1 k := by
  have i1 := i.ex e
  have r := i1.r
  obtain ⟨⟨n1, n2, n3, n4⟩, ⟨n5, n6, n7⟩, ⟨n8, n9⟩, n10⟩ := nd5.mp r.nd
  have nen : ∀ b, Own x b → n ≠ b := fun b hb q => i.new z.hn (q ▸ hb)
  have nes : ∀ b, Own x b → s ≠ b := fun b hb q => i.new z.hs (q ▸ hb)
  have hr : HR K H1 { x with st := a, stn := n, sts := s } h := ⟨r.mem, r.row, r.done, z.t, z.kn, z.ks, r.fresh, r.prom, r.tak, r.heard, r.rf,
      nd5.mpr ⟨⟨z.ne, nen _ (by simp [Own]), nen _ (by simp [Own]), nen _ (by simp [Own])⟩, ⟨nes _ (by simp [Own]), nes _ (by simp [Own]), nes _ (by simp [Own])⟩, ⟨n8, n9⟩, n10⟩⟩
  have ho : ∀ b, Own { x with st := a, stn := n, sts := s } b → Own x b ∨ H b = none := fun b q => by
    rcases q with q | q | q | q | q | q | q | q
    · exact .inl (.inl q)
    · exact .inl (.inr (.inl q))
    · exact .inr (q ▸ z.hn)
    · exact .inr (q ▸ z.hs)
    · exact .inl (.inr (.inr (.inr (.inr (.inl q)))))
    · exact .inl (.inr (.inr (.inr (.inr (.inr (.inl q))))))
    · exact .inl (.inr (.inr (.inr (.inr (.inr (.inr (.inl q)))))))
    · exact .inl (.inr (.inr (.inr (.inr (.inr (.inr (.inr q)))))))
  have A := i1.upd hr rfl rfl fun b _ => by
    cases q : H1 b with
    | none => exact .inr (.inl rfl)
    | some o => exact .inr (.inr ⟨o, rfl⟩)
  refine ⟨.ins (CH K) x.dx (putF "own_state" (.ref a) (hfs x h)), ?_, ⟨fun b o q n => by rw [upd_ne (fun z => n (.inl z))]; exact e _ _ q, ho, rfl, rfl, fun b hb => live_upd b (live_ex e b hb)⟩, fun b u hb hn => by rw [upd_ne hn]; exact hb, fun b xs hb => by rw [upd_ne (ne_of hb i1.ob (by intro z; cases z))]; exact hb, fun b o u hb => by rw [upd_ne (ne_of hb i1.ob (by intro z; cases z))]; exact hb, fun k hk => ⟨_, h0, x.p, CH K, x.dx, hfs x h, rfl, i1.ob, cl, na, hfs_len, hk⟩⟩
  rw [p_state (b := n) (c := s)]
  exact A
end
section
variable {P : Program} {w : World} {K : PySem.W.Frag} {mg : Str → Option Value} {base : Heap}
abbrev spGoOn (K : PySem.W.Frag) : Sp := spU K (fun p : Place => [dP p]) (fun h _ => h.fresh ≤ 10000000) (fun h p => h.goOnTo p)
theorem sc_H_go_on_to : FnScope ["self", "place", "own", "entry", "answer", "events"] ["self", "place"] (defScope m_go_on_to) := ⟨rfl, rfl, rfl, by decide +kernel, rfl, by decide +kernel, by decide +kernel⟩
theorem go_filter {r : Row} {i : Nat} {t : Thing} (h : r[i]? = some t) (c : Thing → Bool) : ((r.take (i + 1)).filter c).length = ((r.take i).filter c).length + (if c t = true then 1 else 0) := by
  rw [List.take_add_one, h]
  show ((r.take i ++ [t]).filter c).length = _
  rw [List.filter_append, List.length_append]
  by_cases q : c t = true
  · rw [if_pos q, List.filter_cons_of_pos q]; rfl
  · rw [if_neg q, List.filter_cons_of_neg q]; rfl
theorem ok_go_on_to (T : TX w K mg) : Cal P w K mg base 5 (He.ma K (CH K) "go_on_to") ["self", "place"] (spGoOn K) [] := by
  have C_done := ok_done (P := P) (base := base) T
  refine cal_U T 38 (d := e_go_on_to) rfl rfl rfl sc_H_go_on_to (fun _ => rfl) (fun _ _ _ _ _ _ us hl => match us, hl with | [_, _], _ => rfl) fun cdv A outer s H vs E x h p hr i wh hf hv => ?_
  obtain ⟨v, rfl, hd⟩ := dpA1 hv
  obtain ⟨ws, r1, r2⟩ := i.r.row
  have hwl : ws.length = h.row.length := by rw [dpA_len r2, List.length_map]
  have hrl := wh.row
  refine ⟨_, (pss_cons (ps_for PassesOwn.never rfl (pi_list (pe_fld (pv 0) rfl)) (pg_tup rfl (pgs_cons (pg_name (i := 2) sc_H_go_on_to.nd rfl (by first | exact Or.inl rfl | exact Or.inr rfl)) (pgs_cons (pg_name (i := 3) sc_H_go_on_to.nd rfl (by first | exact Or.inl rfl | exact Or.inr rfl)) pgs_nil))) (pss_one (ps_if (pt_chain (op_ltT hr.units0) (op_leT hr.units0) (pe_fld (pv 0) rfl) (pv 2) (pv 1)) (pss_cons (ps_asg (pe_kN C_done (hr.mono (by decide)) (by rfl) T.g_done_states (pa_cons (pe_fld (pv 0) rfl) (pa_cons (pv 3) pa_nil)) (pk_cons (pv 2) pk_nil)) (pg_tup rfl (pgs_cons (pg_fld (pv 0)) (pgs_cons (pg_name (i := 4) sc_H_go_on_to.nd rfl (by first | exact Or.inl rfl | exact Or.inr rfl)) (pgs_cons (pg_name (i := 5) sc_H_go_on_to.nd rfl (by first | exact Or.inl rfl | exact Or.inr rfl)) pgs_nil)))))
    (pss_one (ps_expr (pe_bm PySem.F.plainAttrs_list PySem.F.slot_list_append PySem.F.type_list_append mt_append (pe_fld (pv 0) rfl) (pa_cons (pe_tup (pa_cons (pv 2) (pa_cons (pv 3) (pa_cons (pv 4) (pa_cons (pv 5) pa_nil))))) pa_nil))))) pss_nil)))
    (pss_one (ps_fld (pv 0) (pe_callB (call_max2P rfl (hr.units)) (by rfl) T.b_max bt_max (pa_cons (pe_fld (pv 0) rfl) (pa_cons (pv 1) pa_nil))) rfl))), fun D q => ?_⟩
  let c : Thing → Bool := fun t => decide (Plt h.done t.1) && decide (Ple t.1 p)
  refine c_for ?_
  unfold tFor iList
  refine ev_f T.cls T.a_own_row i l_row (by rfl) H (Evl.Ex.refl _) _ fun H1 e1 => ⟨x.row, rfl, ⟨ws, .of (e1 _ _ r1)⟩, for_list (xs := ws) (fun k σ H' => ∃ x' y1 y2 y3 y4, σ = [some (.ref x.p), some v, y1, y2, y3, y4] ∧ HAt K H' x' { h with fresh := h.fresh + ((h.row.take k).filter c).length } ∧ To x H x' H' ∧ x'.row = x.row ∧ H' x.row = some (.lst ws) ∧ DpAll K H' ws (h.row.map dT) ∧ Dp K H' v (dP p))
    ⟨x, _, _, _, _, rfl, i.ex e1, To.ex x e1, rfl, e1 _ _ r1, dpA_ex e1 r2, dp_ex e1 hd⟩ ?_ ?_ ?_⟩
  · rintro k σ H' _ ⟨x', y1, y2, y3, y4, rfl, a1, a2, a3, a4, a5, a6⟩
    exact .of a4
  · rintro k xx σ H' hx ⟨x', y1, y2, y3, y4, rfl, a1, a2, a3, a4, a5, a6⟩
    obtain ⟨dd, hd1, hxd⟩ := dpA_get' a5 hx
    rw [List.getElem?_map] at hd1
    obtain ⟨t, hte, rfl⟩ := Option.map_eq_some_iff.mp hd1
    have hm := List.mem_of_getElem? hte
    refine g_pair (a := dP t.1) (b := dE t.2) hxd fun z1 z2 g1 g2 => ?_
    simp only [L2.start, List.map_cons, List.map_nil, List.length_cons, List.length_nil, List.replicate_succ, List.replicate_zero, List.cons_append, List.nil_append, List.set_cons_zero, List.set_cons_succ, Nat.reduceAdd, Nat.reduceSub]
    have hgo := go_filter hte c
    have hxp : x'.p = x.p := a2.p
    refine Evl.s_if (b := c t) (et_t (et_chain (evd_done T.cls a1 T.a_own_done (by show some (some (V.ref x.p)) = _; rw [hxp])) (evd_var g1 (by rfl)) rd_ltP (fun _ => evd_var a6 (by rfl)) (fun _ => rd_leP))) (fun hc H2 e2 => ?_) fun hc H2 e2 => ?_
    · rw [hc, if_pos rfl] at hgo
      have i2 := a1.ex e2
      -- own_state, answer, events = done_states(own_state, entry, place=own)
      obtain ⟨kn, k1, k2⟩ := i2.r.stn
      obtain ⟨ks, s1, s2⟩ := i2.r.sts
      refine c_asg (c_callN ?_)
      refine c_cons (ev_f T.cls T.a_own_state i2 l_state (by show some (some (V.ref x.p)) = _; rw [hxp]) H2 (Evl.Ex.refl _) _ fun H3 e3 => c_cons (c_var (i := 3) (c_nil (c_cons (c_var (i := 2) (c_nil ⟨rfl, rfl, ?_⟩) (by rfl)))) (by rfl)))
      have i3 := i2.ex e3
      refine ⟨x'.st, x'.stn, x'.sts, z2, z1, kn, ks, t.2, t.1, rfl, i3.r.st, e3 _ _ k1, k2, e3 _ _ s1, s2.keep (ex_tups e3) (ex_frz e3), wh.ent t hm, dp_ex (e2.trans e3) g2, dp_ex (e2.trans e3) g1, fun r' a' n' s' ans evs H4 e4 S4 gr => ?_⟩
      obtain ⟨o5, A5, T5, K5, tu5, fr5, G5⟩ := setState (σ := [some (.ref x.p), some v, some z1, some z2, y3, y4]) (by show some (some (V.ref x.p)) = _; rw [hxp]) T.cls T.a_own_state i3 e4 S4
      refine ⟨r', _, rfl, gr, rfl, _, _, rfl, G5 _ ⟨_, _, rfl, _, _, rfl, rfl, ?_⟩⟩
      simp only [L2.start, List.map_cons, List.map_nil, List.length_cons, List.length_nil, List.replicate_succ, List.replicate_zero, List.cons_append, List.nil_append, List.set_cons_zero, List.set_cons_succ, Nat.reduceAdd, Nat.reduceSub]
      have E4 := (e2.trans e3).trans e4
      -- fresh.append
      obtain ⟨fv, f1, f2⟩ := A5.r.fresh
      have hxp5 : ({ x' with st := a', stn := n', sts := s' } : HX).p = x.p := hxp
      refine c_drop1 (c_app (l := x'.fresh) (xs := fv) (ev_f T.cls T.a_fresh A5 l_fresh (by show some (some (V.ref x.p)) = _; rw [hxp5])) f1 fun H6 e6 => ?_)
      refine c_cons (c_tup (c_cons (c_var (i := 2) (c_cons (c_var (i := 3) (c_cons (c_var (i := 4) (c_cons (c_var (i := 5) (c_nil ⟨Evl.sz_of (show 4 ≤ 100000 by decide), fun tq htq => c_nil ?_⟩) (by rfl))) (by rfl))) (by rfl))) (by rfl))))
      have e7 := Evl.Ex.new (o := HO.tup [z1, z2, ans, evs]) htq
      have E6 := e6.trans e7
      have A7 := A5.ex E6
      have hsz : fv.length < sizeLine := by
        have f3 : fv.length = h.fresh + ((h.row.take k).filter c).length := f2
        have z9 := List.length_filter_le c (h.row.take k)
        rw [List.length_take] at z9
        rw [sizeLine_eq]
        omega
      refine ⟨x'.fresh, fv, _, rfl, rfl, E6 _ _ f1, hsz, ?_⟩
      obtain ⟨A8, T8⟩ := A7.setFresh (ws := fv ++ [.ref tq]) (n := h.fresh + ((h.row.take (k + 1)).filter c).length) (by rw [List.length_append, f2, hgo]; rfl)
      have tu8 := tups_upd (o := .lst (fv ++ [.ref tq])) (E6 _ _ f1)
      have fr8 := frz_upd (o := .lst (fv ++ [.ref tq])) (E6 _ _ f1)
      have nrp : x.row ≠ x'.p := by rw [← a3]; exact a1.np.1
      have nrf : x.row ≠ x'.fresh := by rw [← a3]; exact a1.r.rf
      refine ⟨{ x' with st := a', stn := n', sts := s' }, _, _, _, _, rfl, A8, ((((a2.trans (To.ex x' (e2.trans e3))).trans T5).trans (To.ex _ E6)).trans T8), a3, ?_, ?_, ?_⟩
      · rw [upd_ne nrf]
        exact E6 _ _ (K5 _ _ (E4 _ _ a4) nrp)
      · exact dpA_keep tu8 fr8 (imm_map imm_dT _) (dpA_ex E6 (dpA_keep tu5 fr5 (imm_map imm_dT _) (dpA_ex E4 a5)))
      · exact dp_keep tu8 fr8 (imm_dP _) (dp_ex E6 (dp_keep tu5 fr5 (imm_dP _) (dp_ex E4 a6)))
    · rw [hc, if_neg Bool.false_ne_true, Nat.add_zero] at hgo
      refine ⟨x', _, _, _, _, rfl, ?_, a2.trans (To.ex x' e2), a3, e2 _ _ a4, dpA_ex e2 a5, dp_ex e2 a6⟩
      rw [hgo]
      exact a1.ex e2
  · rintro σ H' ⟨x', y1, y2, y3, y4, rfl, a1, a2, a3, a4, a5, a6⟩
    rw [hwl, List.take_length] at a1
    have hxp : x'.p = x.p := a2.p
    have hx0 : ∀ r : L2.St, (some (V.ref x.p) :: r)[0]? = some (some (V.ref x'.p)) := fun r => by rw [hxp]; rfl
    dsimp only
    refine s_fldDone (p := pmax h.done p) (hx0 _) T.cls T.a_own_done a1 ?_ fun H2 a i2 t2 => ?_
    · refine evd_cb (eds_cons (evd_done T.cls a1 T.a_own_done (hx0 _)) (eds_one (evd_var a6 (by rfl)))) fun vs H3 e3 hv3 Q kk => ?_
      obtain ⟨u1, u2, rfl, w1, w2⟩ := dpA2 hv3
      refine ⟨u1, u2, h.done, p, rfl, w1, w2, kk _ H3 (Evl.Ex.refl _) ?_⟩
      unfold pmax
      split
      · exact w2
      · exact w1
    · exact q _ _ _ i2 (a2.trans t2)
end
end Wn

set_option Elab.async false
set_option linter.all false
set_option maxRecDepth 100000
set_option maxHeartbeats 4000000
/-! methods (6): look_done. -/
namespace Wn
open PySem PySem.Spec PyProof.Rows L2
open Zab hiding World Place Row
section
variable {K : PySem.W.Frag} {H : Hp}
theorem drep_vals : ∀ {kvs : List (Key × V)} {d : Dic}, DRep K H kvs d → DpAll K H (kvs.map (·.2)) ((d.map (·.2)).map dP)
  | [], [], _ => .nil
  | _ :: _, _ :: _, h => .cons h.1.2 (drep_vals h.2)
theorem c_kw {r : List V → List V → Hp → VK → Prop} {t tk : TA} {σ : L2.St} {k : VK} (h : t σ H fun vs H1 => tk σ H1 fun zs H2 => r vs zs H2 k) : tCKw r t tk σ H k := h
theorem c_vals {td : TE} {σ : L2.St} {k : VK} (h : td σ H fun x H1 => ∃ a kvs, x = V.ref a ∧ H1 a = some (.dK kvs) ∧ ∀ p, H1 p = none → k (.ref p) (upd H1 p (viewO "dict_values" p a))) : tVals td σ H k := h
theorem pl_filter {r : Row} (c : Place → Bool) : (r.filter fun t => c t.1).map (fun t => dP t.1) = ((places r).filter c).map dP := by
  unfold places
  rw [List.filter_map, List.map_map]
  rfl
end
section
variable {P : Program} {w : World} {K : PySem.W.Frag} {mg : Str → Option Value} {base : Heap}
abbrev spLookDone (K : PySem.W.Frag) : Sp := spM K e0 (fun h _ => h.fresh ≤ 10000000) (fun h _ => h.lookDone)
/-- [self.say(..) for other in self.others() if other in self.taken] and the like -/
theorem evn_others {σ : L2.St} {H : Hp} {x : HX} {h : House} {j : Nat} {t : TT} {te : TE} {vs : List Nat} {E : XK} (i : HAt K H x h) (wh : WH h) (c : Nat → Bool) (f : Nat → PyData) (hi : ∀ o, Imm (f o))
    (ht : ∀ o v H1, Ex H H1 → Dp K H1 v (dN o) → Evl.EvT t ((wipe σ vs).set j (some v)) H1 (c o))
    (he : ∀ o ∈ h.others, ∀ v H1, Ex H H1 → Dp K H1 v (dN o) → c o = true → EvD K te ((wipe σ vs).set j (some v)) H1 (f o))
    (h0 : σ[0]? = some (some (.ref x.p)) := by rfl) (hw : ∀ x, wipe ((wipe σ vs).set j (some x)) vs = wipe σ vs := by intro _; rfl) :
    EvN K (tLc (iList K (tMeth (CH K) "others" (spOthers K) [] E (tVar 0) tNil)) (gName j) t te vs) σ H ((h.others.filter c).map f) :=
  evn_lc (g := dN) c f (evn_P (m := "others") (res := fun h (_ : Unit) => h.others.map dN) i wh () trivial eds_nil h0 (by kernel_rfl)).d (by have := wh.mem; have := List.length_filter_le (fun o => decide (o ≠ h.nm)) h.mem; show (h.mem.filter _).length < 100000; omega) (fun _ _ => hi _)
    (fun o _ v H1 e hv => ht o v H1 e hv) (fun o ho v H1 e hv hc => he o ho v H1 e hv hc) hw
theorem sc_H_look_done : FnScope ["self", "marks", "mark", "places", "place", "entry", "other"] ["self"] (defScope m_look_done) := ⟨rfl, rfl, rfl, by decide +kernel, rfl, by decide +kernel, by decide +kernel⟩
theorem ok_look_done (T : TX w K mg) : Cal P w K mg base 6 (He.ma K (CH K) "look_done") ["self"] (spLookDone K) [] := by
  have C_most_of := ok_most_of (P := P) (base := base) T
  have M_is_settled := ok_is_settled (P := P) (base := base) T
  have M_go_on_to := ok_go_on_to (P := P) (base := base) T
  have M_others := ok_others (P := P) (base := base) T
  have M_say := (ok_say (P := P) (base := base) T).1
  refine cal_M T 47 (d := e_look_done) rfl rfl rfl sc_H_look_done (fun _ => rfl) (fun _ _ _ _ _ _ us hl => match us, hl with | [_], _ => rfl) fun cdv A outer s H vs E x h a hr i wh hf hv => ?_
  obtain rfl := dpA0 hv
  refine ⟨_, (pss_cons (ps_if (pt_not (pt_val (pe_m0 T.cls T.m_is_settled M_is_settled (hr.mono (by decide)) (pv 0)))) (pss_one (ps_ret (pe_lst pa_nil))) pss_nil)
    (pss_cons (ps_asg (pe_callBK (cr_sortV rfl (hr.units)) (by rfl) T.b_sorted bt_sorted (pa_cons (pe_vals (pe_fld (pv 0) rfl)) pa_nil) (pk_cons pe_bl pk_nil)) (pg_name (i := 1) sc_H_look_done.nd rfl (by first | exact Or.inl rfl | exact Or.inr rfl)))
    (pss_cons (ps_asg (pe_ix ix_list (pv 1) (pe_op op_sub (pe_k C_most_of (hr.mono (by decide)) (by rfl) T.g_most_of (pa_cons (pe_fld (pv 0) rfl) pa_nil)) pe_int) (fun _ _ => rfl)) (pg_name (i := 2) sc_H_look_done.nd rfl (by first | exact Or.inl rfl | exact Or.inr rfl)))
    (pss_cons (ps_setLc (i := 3) (own := [("place", 4), ("entry", 5)]) (g := gTup K 2 (gCons (gName 4) (gCons (gName 5) gNil))) (by rfl) sc_H_look_done.nd rfl rfl (sw_true rfl rfl rfl (by decide +kernel)) (pi_list (pe_fld (pv 0) rfl)) (blkOk_by (own := [("place", 4), ("entry", 5)]) (N := ["self", "marks", "mark", "places", "place", "entry", "other"]) (sc := defScope m_look_done) (by decide +kernel)) (fun _ _ _ _ _ => pg_tup rfl (pgs_cons (pg_name (i := 4) sc_H_look_done.nd rfl (Or.inl rfl)) (pgs_cons (pg_name (i := 5) sc_H_look_done.nd rfl (Or.inl rfl)) pgs_nil))) (fun _ _ _ _ _ => (pts_one (pt_chain (r := rLtT K) (r' := rLeT K) (op_ltT hr.units0) (op_leT hr.units0) (pe_fldK (K := K) (pv 0) rfl) (pv 4) (pv 2)))) (fun _ _ _ _ _ => (pv 4)))
    (pss_cons (ps_if (pt_cmpR (op_eqD (hr.units)) (pv 3) (pe_lst pa_nil) (nomark _)) (pss_one (ps_ret (pe_lst pa_nil))) pss_nil)
    (pss_cons (ps_asg (pe_ix ix_list (pv 3) (pe_un un_neg pe_int) (fun _ _ => rfl)) (pg_name (i := 4) sc_H_look_done.nd rfl (by first | exact Or.inl rfl | exact Or.inr rfl)))
    (pss_cons (ps_expr (pe_m T.cls T.m_go_on_to M_go_on_to (hr.mono (by decide)) (pv 0) (pa_cons (pv 4) pa_nil)))
    (pss_one (ps_ret (pe_lc (own := [("other", 6)]) (g := gName 6) (by rfl) sc_H_look_done.nd (pi_list (pe_m0 T.cls T.m_others M_others (hr.mono (by decide)) (pv 0))) (blkOk_by (own := [("other", 6)]) (N := ["self", "marks", "mark", "places", "place", "entry", "other"]) (sc := defScope m_look_done) (by decide +kernel)) (fun _ _ _ _ _ => pg_name (i := 6) sc_H_look_done.nd rfl (Or.inl rfl)) (fun _ _ _ _ _ => (pts_one (pt_cmp (pc_din (u1 hr) (pv 6) (pe_fldK (K := K) (pv 0) rfl))))) (fun _ _ _ _ _ => (pe_m T.cls T.m_say M_say (hr.mono (by decide)) (pv 0) (pa_cons pe_str (pa_cons (pv 6) (pa_cons (pe_fldK (K := K) (pv 0) rfl) (pa_cons (pe_tup (pa_cons (pv 4) pa_nil)) pa_nil)))))))))))))))), fun D q => ?_⟩
  have none_ : ∀ H1, Ex H H1 → h.lookDone = (h, []) → ∀ p H2, H1 p = none → Ex H1 H2 → LstAt K H2 p [] → D.rt (.ref p) H2 := fun H1 e1 hz p H2 hp e2 l2 => by
    have i2 := (i.ex e1).ex e2
    have hpH := Evl.fresh_back e1 hp
    refine q p x H2 ?_ (To.ex x (e1.trans e2)) hpH (i.new hpH) ?_
    · rw [hz]; exact i2
    · rw [hz]; exact l2
  refine Evl.q_when (b := !h.settled) (Evl.et_not (et_b (evd_P (m := "is_settled") (res := fun h (_ : Unit) => .bool h.settled) i wh () trivial eds_nil (by rfl) (by kernel_rfl)))) (fun c H1 e1 => ?_) fun c H1 e1 => ?_
  · have c : h.settled = false := by cases z : h.settled with | false => rfl | true => rw [z] at c; cases c
    exact s_retN (evn_lst eds_nil) (none_ H1 e1 (by unfold House.lookDone; rw [c]; rfl))
  · have hs : h.settled = true := by cases z : h.settled with | true => rfl | false => rw [z] at c; cases c
    have i1 := i.ex e1
    have hmost : most h.mem.length ≤ h.taken.length := by
      unfold House.settled at hs
      exact of_decide_eq_true (Bool.and_eq_true_iff.mp hs).2
    obtain ⟨kvs, k1, k2⟩ := i1.r.tak
    have hkl := drep_len k2
    have htl := wh.tak
    -- marks
    refine c_asg (c_kw (c_cons (c_vals (ev_taken T.cls i1 T.a_taken (by rfl) H1 (Evl.Ex.refl _) _ fun H2 e2 => ⟨x.tak, kvs, rfl, e2 _ _ k1, fun pv hpv => c_nil (c_cons (c_c (c_nil ?_)))⟩))))
    have e3 := Evl.Ex.new (o := viewO "dict_values" pv x.tak) hpv
    refine ⟨pv, x.tak, kvs, List.map (fun z : Nat × Place => z.2) h.taken, rfl, rfl, upd_same, e3 _ _ (e2 _ _ k1), dpA_ex (e2.trans e3) (drep_vals (K := K) k2), by rw [List.length_map]; omega, fun pm ms hpm hms => ?_⟩
    have e4 := Evl.Ex.new (o := HO.lst ms) hpm
    have dm := LstAt.dp ⟨ms, upd_same, dpA_ex e4 hms⟩
    have E4 := (e2.trans e3).trans e4
    have i4 := i1.ex E4
    generalize upd (upd H2 pv (viewO "dict_values" pv x.tak)) pm (HO.lst ms) = H4 at *
    simp only [L2.start, List.map_cons, List.map_nil, List.length_cons, List.length_nil, List.replicate_succ, List.replicate_zero, List.cons_append, List.nil_append, List.set_cons_zero, List.set_cons_succ, Nat.reduceAdd, Nat.reduceSub]
    -- mark
    have hidx : ((h.taken.map (·.2)).mergeSort fun a b => decide (Ple b a))[most h.mem.length - 1]? = some (House.mark h.taken (most h.mem.length - 1)) := by
      have hl : most h.mem.length - 1 < ((h.taken.map (·.2)).mergeSort fun a b => decide (Ple b a)).length := by
        rw [List.length_mergeSort, List.length_map]
        have : 1 ≤ most h.mem.length := Nat.le_add_left _ _
        omega
      unfold House.mark
      rw [List.getD_eq_getElem?_getD, List.getElem?_eq_getElem hl]
      rfl
    refine q_asgD (evd_op (evd_var (i := 1) dm (by rfl)) (evd_op (evd_F h.mem trivial (eds_one (evd_members T.cls i4 T.a_own_members (by rfl)))) evd_int (rd_I0 (z := dI (most h.mem.length - 1)) fun H => (by
      have : ((most h.mem.length : Int) - 1) = ((most h.mem.length - 1 : Nat) : Int) := by have : 1 ≤ most h.mem.length := Nat.le_add_left _ _; omega
      rw [this]
      exact .int _))) (rd_ixL (d := dP (House.mark h.taken (most h.mem.length - 1))) (atI_nat (by rw [List.getElem?_map, hidx]; rfl)))) fun vm H5 e5 d5 => ?_
    simp only [L2.start, List.map_cons, List.map_nil, List.length_cons, List.length_nil, List.replicate_succ, List.replicate_zero, List.cons_append, List.nil_append, List.set_cons_zero, List.set_cons_succ, Nat.reduceAdd, Nat.reduceSub]
    have i5 := i4.ex e5
    let cc : Place → Bool := fun p => decide (Plt h.done p) && decide (Ple p (House.mark h.taken (most h.mem.length - 1)))
    refine q_asgN (evn_lc2 (g1 := fun t : Thing => dP t.1) (g2 := fun t => dE t.2) (fun t => cc t.1) (fun t => dP t.1) (evd_row T.cls i5 T.a_own_row (by rfl)) (by have := wh.row; omega) (fun _ _ => imm_dP _)
      (fun t _ v w H6 e6 h1 h2 => et_t (et_chain (evd_done T.cls (i5.ex e6) T.a_own_done (by rfl)) (evd_var h1 (by rfl)) rd_ltP (fun _ => evd_var (i := 2) (dp_ex e6 d5) (by rfl)) (fun _ => rd_leP))) (fun t _ v w H6 e6 h1 h2 _ => evd_var h1 (by rfl))) fun pp H6 hpp e6 l6 => ?_
    simp only [L2.start, List.map_cons, List.map_nil, List.length_cons, List.length_nil, List.replicate_succ, List.replicate_zero, List.cons_append, List.nil_append, List.set_cons_zero, List.set_cons_succ, Nat.reduceAdd, Nat.reduceSub]
    rw [pl_filter cc] at l6
    have hdn : (places h.row).filter cc = h.doneNew := rfl
    rw [hdn] at l6
    have i6 := i5.ex e6
    have E6 := (E4.trans e5).trans e6
    refine Evl.q_when (b := h.doneNew.isEmpty) (et_to (et_t (evd_op (evd_var (i := 3) l6.dp (by rfl)) (evn_lst eds_nil).d (rd_eqD (ShpA.map fun p _ => shp_dP p).lst (ShpA.nil 0).lst))) (by rw [eqv_nil, List.isEmpty_map])) (fun c2 H7 e7 => ?_) fun c2 H7 e7 => ?_
    · exact s_retN (K := K) (evn_lst eds_nil) (none_ H7 ((e1.trans E6).trans e7) (by unfold House.lookDone; rw [if_pos hs, List.isEmpty_iff.mp c2]; rfl))
    · have i7 := i6.ex e7
      cases hb : h.doneNew.getLast? with
      | none => rw [List.getLast?_eq_none_iff.mp hb] at c2; cases c2
      | some b =>
        have hld : h.lookDone = (h.goOnTo b, (h.others.filter fun o => dhas h.taken o).map fun o => ⟨h.nm, o, h.epoch, .done b⟩) := by
          unfold House.lookDone
          rw [if_pos hs, hb]
        refine q_asgD (evd_op (evd_var (i := 3) (dp_ex e7 l6.dp) (by rfl)) evd_neg (rd_ixL (d := dP b) (atI_last (by rw [List.getLast?_map, hb]; rfl)))) fun vb H8 e8 d8 => ?_
        simp only [L2.start, List.map_cons, List.map_nil, List.length_cons, List.length_nil, List.replicate_succ, List.replicate_zero, List.cons_append, List.nil_append, List.set_cons_zero, List.set_cons_succ, Nat.reduceAdd, Nat.reduceSub]
        have i8 := i7.ex e8
        refine q_U (m := "go_on_to") (f := fun h p => h.goOnTo p) i8 wh b hf (eds_one (evd_var (i := 4) d8 (by rfl))) (by rfl) (by kernel_rfl) fun x' H9 i9 t9 => ?_
        have E8 := ((e1.trans E6).trans e7).trans e8
        have tt := (To.ex x E8).trans t9
        have hxp : x'.p = x.p := tt.p
        have hx0 : ∀ r : L2.St, (some (V.ref x.p) :: r)[0]? = some (some (V.ref x'.p)) := fun r => by rw [hxp]; rfl
        have wh9 : WH (h.goOnTo b) := ⟨wh.row, wh.ent, by have := goOnTo_fresh (h := h) b; have := wh.row; have : h.fresh ≤ 10000000 := hf; omega, wh.prom, wh.tak, wh.mem⟩
        obtain ⟨kv9, k91, k92⟩ := i9.r.tak
        have db := t9.dp i8 (imm_dP b) d8
        refine s_retN (K := K) (evn_others (h := h.goOnTo b) i9 wh9 (fun o => dhas h.taken o) (fun o => dL ⟨h.nm, o, h.epoch, .done b⟩) (fun o => imm_dL _) ?_ ?_ (hx0 _)) fun pl H10 hpl e10 l10 => ?_
        · exact fun o v H10 e10 hv10 => et_b (evd_din (evd_var hv10 (by rfl)) (ev_taken (h := h.goOnTo b) T.cls (i9.ex e10) T.a_taken (hx0 _)) (e10 _ _ k91) (drep_keep (ex_tups e10) (ex_frz e10) k92))
        · intro o ho v H10 e10 hv10 _
          refine evd_say (h := h.goOnTo b) (.done b) (i9.ex e10) wh9 ?_ (hx0 _)
          exact eds_cons evd_str (eds_cons (evd_var hv10 (by rfl)) (eds_cons (evd_epoch (h := h.goOnTo b) T.cls (i9.ex e10) T.a_own_epoch (hx0 _)) (eds_one (evd_tup (eds_one (evd_var (i := 4) (dp_ex e10 db) (by rfl))) (by show 1 ≤ 100000; decide)))))
        have hplH := Evl.fresh_back E8 (t9.back hpl)
        refine q pl x' H10 (by rw [hld]; exact i9.ex e10) (tt.trans (To.ex x' e10)) hplH (i9.new hpl) ?_
        rw [hld]
        show LstAt K H10 pl (((h.others.filter fun o => dhas h.taken o).map fun o => (⟨h.nm, o, h.epoch, .done b⟩ : Letter)).map dL)
        rw [List.map_map]
        exact l10
end
end Wn

set_option Elab.async false
set_option linter.all false
set_option maxRecDepth 100000
set_option maxHeartbeats 4000000
/-! methods (7): lead, seek, put. -/
namespace Wn
open PySem PySem.Spec PyProof.Rows L2
open Zab hiding World Place Row
section
variable {K : PySem.W.Frag} {σ : L2.St} {H : Hp} {x : HX} {h : House} {ta : TA} {α : Type} {enc : α → List PyData} {pre : House → α → Prop} {m : Str} {E : XK}
theorem dLs_imm (ls : List Letter) : ∀ d ∈ ls.map dL, Imm d := imm_map imm_dL ls
/-- return letters + self.m(..) -/
theorem ret_cat {f : House → α → House × List Letter} {D : Ends} {j : Nat} {p1 : Addr} {ls : List Letter} (i : HAt K H x h) (w : WH h) (a : α) (hp : pre h a) (he : EvDs K ta σ H (enc a)) (hl : LstAt K H p1 (ls.map dL)) (no : ¬ Own x p1) (hz : ls.length + (f h a).2.length ≤ 1000000)
    (hσ : σ[j]? = some (some (.ref p1))) (h0 : σ[0]? = some (some (.ref x.p))) (l : (hfs x h).lookup m = none)
    (q : ∀ p3 x' H', HAt K H' x' (f h a).1 → To x H x' H' → H p3 = none → ¬ Own x' p3 → LstAt K H' p3 ((ls ++ (f h a).2).map dL) → D.rt (.ref p3) H') : tRet (tOp rCat (tVar j) (tMeth (CH K) m (spM K enc pre f) [] E (tVar 0) ta)) D σ H := by
  refine c_ret (c_rgl (c_var (i := j) (c_M i w a hp he h0 l fun p2 x' H' i' t hn no' l2 => ?_) hσ))
  obtain ⟨xs, a1, a2⟩ := t.lst i hl no (dLs_imm ls)
  obtain ⟨ys, b1, b2⟩ := l2
  have s1 := dpA_len a2
  have s2 := dpA_len b2
  rw [List.length_map] at s1 s2
  refine ⟨p1, p2, xs, ys, rfl, rfl, a1, b1, by rw [sizeLine_eq]; omega, fun p3 hp3 => ?_⟩
  have e4 := Evl.Ex.new (o := HO.lst (xs ++ ys)) hp3
  refine q p3 x' _ (i'.ex e4) (t.trans (To.ex x' e4)) (t.back hp3) (i'.new hp3) ⟨_, upd_same, ?_⟩
  rw [List.map_append]
  exact dpA_app (dpA_ex e4 a2) (dpA_ex e4 b2)
/-- {self.own_name: self.last()} -/
theorem c_disp {tk tv : TE} {k : VK} {n : Nat} {p : Place} (hk : EvD K tk σ H (dN n)) (hv : EvD K tv σ H (dP p)) (q : ∀ a H1 kvs, H a = none → Ex H H1 → H1 a = some (.dK kvs) → DRep K H1 kvs [(n, p)] → k (.ref a) H1) : tDisp [(tk, tv)] σ H k := by
  intro a ha
  have e0 := Evl.Ex.new (o := HO.dK []) ha
  simp only [tPairs]
  refine hk _ e0 _ fun v H1 e1 d1 => ?_
  refine hv _ (e0.trans e1) _ fun u H2 e2 d2 => ?_
  rw [dp_str d1]
  refine ⟨e2 _ _ (e1 _ _ upd_same), [(Sum.inr (nS n), u)], rfl, by show 1 ≤ 15; decide, ?_⟩
  have ha2 := e2 _ _ (e1 _ _ upd_same)
  have tu : Tups H2 (upd H2 a (.dK (mergeK [] [(Sum.inr (nS n), u)]))) := fun b xs hb => by rw [upd_ne (ne_of hb ha2 (by intro z; cases z))]; exact hb
  have fr : Frz H2 (upd H2 a (.dK (mergeK [] [(Sum.inr (nS n), u)]))) := fun b o u hb => by rw [upd_ne (ne_of hb ha2 (by intro z; cases z))]; exact hb
  exact q a _ [(Sum.inr (nS n), u)] ha (Evl.Ex.mut ((e0.trans e1).trans e2) ha) upd_same ⟨⟨rfl, dp_keep tu fr (imm_dP p) d2⟩, trivial⟩
end
theorem filter_len {α : Type} (c : α → Bool) (l : List α) : (l.filter c).length ≤ l.length := List.length_filter_le c l
theorem lookDone_len (h : House) : h.lookDone.2.length ≤ h.mem.length := by
  unfold House.lookDone
  split
  · split
    · exact Nat.zero_le _
    · show (List.map _ _).length ≤ _
      rw [List.length_map]
      exact Nat.le_trans (filter_len _ _) (filter_len _ _)
  · exact Nat.zero_le _
section
variable {P : Program} {w : World} {K : PySem.W.Frag} {mg : Str → Option Value} {base : Heap}
abbrev spLead (K : PySem.W.Frag) : Sp := spM K e0 (fun h _ => h.fresh ≤ 10000000) (fun h _ => h.lead)
theorem sc_H_lead : FnScope ["self", "letters", "other"] ["self"] (defScope m_lead) := ⟨rfl, rfl, rfl, by decide +kernel, rfl, by decide +kernel, by decide +kernel⟩
theorem ok_lead (T : TX w K mg) : Cal P w K mg base 7 (He.ma K (CH K) "lead") ["self"] (spLead K) [] := by
  have M_last := ok_last (P := P) (base := base) T
  have M_others := ok_others (P := P) (base := base) T
  have M_sync_for := ok_sync_for (P := P) (base := base) T
  have M_look_done := ok_look_done (P := P) (base := base) T
  refine cal_M T 40 (d := e_lead) rfl rfl rfl sc_H_lead (fun _ => rfl) (fun _ _ _ _ _ _ us hl => match us, hl with | [_], _ => rfl) fun cdv A outer s H vs E x h a hr i wh hf hv => ?_
  obtain rfl := dpA0 hv
  refine ⟨_, (pss_cons (ps_fld (pv 0) pe_str rfl)
    (pss_cons (ps_fld (pv 0) (pe_fld (pv 0) rfl) rfl)
    (pss_cons (ps_fld (pv 0) (pe_fld (pv 0) rfl) rfl)
    (pss_cons (ps_fld (pv 0) (pe_disp (pps_cons (pe_fld (pv 0) rfl) (pe_m0 T.cls T.m_last M_last (hr.mono (by decide)) (pv 0)) pps_nil) rfl rfl (by intro z; cases z) (by decide)) rfl)
    (pss_cons (ps_setLc (i := 1) (own := [("other", 2)]) (g := gName 2) (by rfl) sc_H_lead.nd rfl rfl (sw_true rfl rfl rfl (by decide +kernel)) (pi_list (pe_m0 T.cls T.m_others M_others (hr.mono (by decide)) (pv 0))) (blkOk_by (own := [("other", 2)]) (N := ["self", "letters", "other"]) (sc := defScope m_lead) (by decide +kernel)) (fun _ _ _ _ _ => pg_name (i := 2) sc_H_lead.nd rfl (Or.inl rfl)) (fun _ _ _ _ _ => (pts_one (pt_cmp (pc_din (u1 hr) (pv 2) (pe_fldK (K := K) (pv 0) rfl))))) (fun _ _ _ _ _ => (pe_m T.cls T.m_sync_for M_sync_for (hr.mono (by decide)) (pv 0) (pa_cons (pv 2) pa_nil))))
    (pss_one (ps_ret (pe_op op_cat (pv 1) (pe_m0 T.cls T.m_look_done M_look_done (hr.mono (by decide)) (pv 0)))))))))), fun D q => ?_⟩
  refine q_fldV (h' := { h with role := .leads }) (by rfl) T.cls T.a_own_role i Evl.ev_c (p_role (r := .leads)) (i.r.of) fun H1 i1 t1 => ?_
  refine q_fldV (h' := { h with role := .leads, head := some h.nm }) (by rfl) T.cls T.a_own_head i1 (ev_f T.cls T.a_own_name i1 l_name (by rfl)) (p_head (o := some h.nm)) (i1.r.of) fun H2 i2 t2 => ?_
  refine q_fldV (h' := { h with role := .leads, head := some h.nm, epoch := h.promised }) (by rfl) T.cls T.a_own_epoch i2 (ev_f T.cls T.a_own_promised i2 l_promised (by rfl)) p_epoch (i2.r.of) fun H3 i3 t3 => ?_
  have wh3 : WH { h with role := .leads, head := some h.nm, epoch := h.promised } := ⟨wh.row, wh.ent, wh.fresh, wh.prom, wh.tak, wh.mem⟩
  refine q_fldTak (d := [(h.nm, h.lst)]) (by rfl) T.cls T.a_taken i3 (by exact fun Q k => c_disp (evd_name T.cls i3 T.a_own_name (by rfl)) (evd_P (m := "last") (res := fun h (_ : Unit) => dP h.lst) i3 wh3 () trivial eds_nil (by rfl) (by kernel_rfl)) fun a H1 kvs h1 h2 h3 h4 => k a H1 kvs h1 h2 h3 h4) fun H4 a4 i4 t4 => ?_
  let h4 : House := { h with role := .leads, head := some h.nm, epoch := h.promised, taken := [(h.nm, h.lst)] }
  have i4 : HAt K H4 { x with tak := a4 } h4 := i4
  have T4 := ((t1.trans t2).trans t3).trans t4
  have wh4 : WH h4 := ⟨wh.row, wh.ent, wh.fresh, wh.prom, by show 1 ≤ 100; decide, wh.mem⟩
  obtain ⟨kv, k1, k2⟩ := i4.r.prom
  refine q_asgN (K := K) (evn_others (h := h4) i4 wh4 (fun o => dhas h4.promises o) (fun o => dL (h4.syncFor o)) (fun o => imm_dL _) ?_ ?_ (by rfl)) fun p1 H5 hp1 e5 l5 => ?_
  · exact fun o v H10 e10 hv10 => et_b (evd_din (evd_var hv10 (by rfl)) (ev_promises (h := h4) T.cls (i4.ex e10) T.a_promises (by rfl)) (e10 _ _ k1) (drep_keep (ex_tups e10) (ex_frz e10) k2))
  · intro o ho v H10 e10 hv10 hc
    exact evd_P (m := "sync_for") (res := fun h (o : Nat) => dL (h.syncFor o)) (i4.ex e10) wh4 o hc (eds_one (evd_var hv10 (by rfl))) (by rfl) (by kernel_rfl)
  simp only [L2.start, List.map_cons, List.map_nil, List.length_cons, List.length_nil, List.replicate_succ, List.replicate_zero, List.cons_append, List.nil_append, List.set_cons_zero, List.set_cons_succ, Nat.reduceAdd, Nat.reduceSub]
  have i5 := i4.ex e5
  have eL : (h4.others.filter fun o => dhas h4.promises o).map (fun o => dL (h4.syncFor o)) = ((h4.others.filter fun o => dhas h4.promises o).map h4.syncFor).map dL := by rw [List.map_map]; rfl
  rw [eL] at l5
  have hld := lookDone_len h4
  have hmem := wh.mem
  have hol : (h4.others.filter fun o => dhas h4.promises o).length ≤ h.mem.length := Nat.le_trans (filter_len _ _) (filter_len _ _)
  refine ret_cat (m := "look_done") (f := fun h (_ : Unit) => h.lookDone) (pre := fun h _ => h.fresh ≤ 10000000) i5 wh4 () hf eds_nil l5 (i4.new hp1) (by rw [List.length_map]; have : h4.mem.length = h.mem.length := rfl; omega) (by rfl) (by rfl) (by kernel_rfl) fun p3 x' H' i' t' hn no l' => ?_
  exact q p3 x' H' i' ((T4.trans (To.ex _ e5)).trans t') (T4.back (Evl.fresh_back e5 hn)) no l'
end
end Wn

set_option Elab.async false
set_option linter.all false
set_option maxRecDepth 100000
set_option maxHeartbeats 4000000
/-! methods (8): seek, put. -/
namespace Wn
open PySem PySem.Spec PyProof.Rows L2
open Zab hiding World Place Row
section
variable {K : PySem.W.Frag} {σ : L2.St} {H H' : Hp} {x : HX} {h h' : House} {tv : TE} {f : Str} {D : Ends} {tz : TS}
/-- self.f += 1 -/
theorem q_aug {n : Nat} (h0 : σ[0]? = some (some (.ref x.p))) (cl : Cls K (CH K)) (na : NoAttr K (CH K) f) (i : HAt K H x h) (l : (hfs x h).lookup f = some (.int (n : Int))) (e1 : putF f (.int ((n + 1 : Nat) : Int)) (hfs x h) = hfs x h') (hr : HR K H x h')
    (k : ∀ H2, HAt K H2 x h' → To x H x H2 → tz D σ H2) : tSeq (sFldAug K (tVar 0) (tC (.int 1)) rAdd f) tz D σ H := by
  have w := q_fldV (tv := tC (.int ((n + 1 : Nat) : Int))) h0 cl na i Evl.ev_c e1 hr k
  obtain ⟨_, h1, p, C, dx, fs, e, ho, c, na', hl, hk⟩ := w
  refine ⟨_, h1, p, C, dx, fs, .int (n : Int), e, ho, c, na', ?_, _, _, rfl, rfl, dx, fs, ho, hl, hk⟩
  rw [h0] at h1
  have e2 := Option.some.inj (Option.some.inj h1)
  rw [← e2] at e
  have e3 : x.p = p := V.ref.inj e
  subst e3
  rw [i.ob] at ho
  injection ho with ho
  injection ho with o1 o2 o3
  rw [← o3]
  exact l
end
section
variable {P : Program} {w : World} {K : PySem.W.Frag} {mg : Str → Option Value} {base : Heap}
abbrev spSeekM (K : PySem.W.Frag) : Sp := spM K e0 (fun h _ => h.fresh ≤ 10000000) (fun h _ => h.seek)
theorem sc_H_seek : FnScope ["self", "other"] ["self"] (defScope m_seek) := ⟨rfl, rfl, rfl, by decide +kernel, rfl, by decide +kernel, by decide +kernel⟩
theorem ok_seek (T : TX w K mg) : Cal P w K mg base 8 (He.ma K (CH K) "seek") ["self"] (spSeekM K) [] := by
  have M_stand_down := ok_stand_down (P := P) (base := base) T
  have M_last := ok_last (P := P) (base := base) T
  have M_others := ok_others (P := P) (base := base) T
  have M_lead := ok_lead (P := P) (base := base) T
  have C_most_of := ok_most_of (P := P) (base := base) T
  have M_say := (ok_say (P := P) (base := base) T).1
  refine cal_M T 39 (d := e_seek) rfl rfl rfl sc_H_seek (fun _ => rfl) (fun _ _ _ _ _ _ us hl => match us, hl with | [_], _ => rfl) fun cdv A outer s H vs E x h a hr i wh hf hv => ?_
  obtain rfl := dpA0 hv
  refine ⟨_, (pss_cons (ps_expr (pe_m0 T.cls T.m_stand_down M_stand_down (hr.mono (by decide)) (pv 0)))
    (pss_cons (ps_fldaug (pv 0) pe_int in_add)
    (pss_cons (ps_fld (pv 0) (pe_fld (pv 0) rfl) rfl)
    (pss_cons (ps_fld (pv 0) (pe_disp (pps_cons (pe_fld (pv 0) rfl) (pe_m0 T.cls T.m_last M_last (hr.mono (by decide)) (pv 0)) pps_nil) rfl rfl (by intro z; cases z) (by decide)) rfl)
    (pss_cons (ps_if (pt_cmpR op_eq (pe_k C_most_of (hr.mono (by decide)) (by rfl) T.g_most_of (pa_cons (pe_fld (pv 0) rfl) pa_nil)) pe_int (nomark _)) (pss_one (ps_ret (pe_m0 T.cls T.m_lead M_lead (hr.mono (by decide)) (pv 0)))) pss_nil)
    (pss_one (ps_ret (pe_lc (own := [("other", 1)]) (g := gName 1) (by rfl) sc_H_seek.nd (pi_list (pe_m0 T.cls T.m_others M_others (hr.mono (by decide)) (pv 0))) (blkOk_by (own := [("other", 1)]) (N := ["self", "other"]) (sc := defScope m_seek) (by decide +kernel)) (fun _ _ _ _ _ => pg_name (i := 1) sc_H_seek.nd rfl (Or.inl rfl)) (fun _ _ _ _ _ => pts_nil) (fun _ _ _ _ _ => (pe_m T.cls T.m_say M_say (hr.mono (by decide)) (pv 0) (pa_cons pe_str (pa_cons (pv 1) (pa_cons (pe_fldK (K := K) (pv 0) rfl) (pa_cons (pe_tup (pa_cons (pe_fldK (K := K) (pv 0) rfl) (pa_cons (pe_m0 T.cls T.m_last M_last (hr.mono (by decide)) (pv 0)) pa_nil))) pa_nil)))))))))))))), fun D q => ?_⟩
  refine q_U (m := "stand_down") (f := fun h (_ : Unit) => h.standDown) i wh () trivial eds_nil (by rfl) (by kernel_rfl) fun x1 H1 i1 t1 => ?_
  have hx0 : ∀ r : L2.St, (some (V.ref x.p) :: r)[0]? = some (some (V.ref x1.p)) := fun r => by rw [t1.p]; rfl
  refine q_aug (n := h.promised) (h' := { h.standDown with promised := h.promised + 1 }) (hx0 _) T.cls T.a_own_promised i1 l_promised p_promised (i1.r.of) fun H2 i2 t2 => ?_
  refine q_fldV (h' := { h.standDown with promised := h.promised + 1, sought := some (h.promised + 1) }) (hx0 _) T.cls T.a_sought i2 (ev_f T.cls T.a_own_promised i2 l_promised (hx0 _)) (p_sought (o := some (h.promised + 1))) (i2.r.of) fun H3 i3 t3 => ?_
  have wh3 : WH { h.standDown with promised := h.promised + 1, sought := some (h.promised + 1) } := ⟨wh.row, wh.ent, wh.fresh, Nat.zero_le _, Nat.zero_le _, wh.mem⟩
  refine q_fldProm (d := [(h.nm, h.lst)]) (hx0 _) T.cls T.a_promises i3 (by exact fun Q k => c_disp (evd_name T.cls i3 T.a_own_name (hx0 _)) (evd_P (m := "last") (res := fun h (_ : Unit) => dP h.lst) i3 wh3 () trivial eds_nil (hx0 _) (by kernel_rfl)) fun a H1 kvs h1 h2 h3 h4 => k a H1 kvs h1 h2 h3 h4) fun H4 a4 i4 t4 => ?_
  let h4 : House := { h.standDown with promised := h.promised + 1, sought := some (h.promised + 1), promises := [(h.nm, h.lst)] }
  have i4 : HAt K H4 { x1 with prom := a4 } h4 := i4
  have T4 := ((t1.trans t2).trans t3).trans t4
  have wh4 : WH h4 := ⟨wh.row, wh.ent, wh.fresh, by show 1 ≤ 100; decide, Nat.zero_le _, wh.mem⟩
  have hsk : h.seek = if most h.mem.length = 1 then h4.lead else (h4, h4.others.map fun o => ⟨h.nm, o, h.promised + 1, .seek h.epoch h.lst⟩) := rfl
  refine Evl.q_when (b := decide (most h.mem.length = 1)) (et_to (et_t (evd_op (evd_F h.mem trivial (eds_one (evd_members (h := h4) T.cls i4 T.a_own_members (hx0 _)))) evd_int (rd_eqI (a := (most h.mem.length : Int)) (b := ((1 : Nat) : Int))))) (dec_nat _ _)) (fun c H5 e5 => ?_) fun c H5 e5 => ?_
  · have c := of_decide_eq_true c
    refine c_ret (c_M (m := "lead") (f := fun h (_ : Unit) => h.lead) (pre := fun h _ => h.fresh ≤ 10000000) (i4.ex e5) wh4 () hf eds_nil (hx0 _) (by kernel_rfl) fun p x' H' i' t' hn no l' => ?_)
    rw [if_pos c] at hsk
    exact q p x' H' (by rw [hsk]; exact i') ((T4.trans (To.ex _ e5)).trans t') (T4.back (Evl.fresh_back e5 hn)) no (by rw [hsk]; exact l')
  · have c := of_decide_eq_false c
    rw [if_neg c] at hsk
    have i5 := i4.ex e5
    refine s_retN (K := K) (evn_others (h := h4) i5 wh4 (fun _ => true) (fun o => dL ⟨h.nm, o, h.promised + 1, .seek h.epoch h.lst⟩) (fun o => imm_dL _) (fun _ _ _ _ _ => et_yes) ?_ (hx0 _)) fun p1 H6 hp1 e6 l6 => ?_
    · intro o ho v H10 e10 hv10 _
      refine evd_say (h := h4) (.seek h.epoch h.lst) (i5.ex e10) wh4 ?_ (hx0 _)
      exact eds_cons evd_str (eds_cons (evd_var hv10 (by rfl)) (eds_cons (evd_ev (ev_f T.cls T.a_sought (i5.ex e10) (l_sought (h := h4)) (hx0 _)) (.int _)) (eds_one (evd_tup (eds_cons (evd_epoch (h := h4) T.cls (i5.ex e10) T.a_own_epoch (hx0 _)) (eds_one (evd_P (m := "last") (res := fun h (_ : Unit) => dP h.lst) (h := h4) (i5.ex e10) wh4 () trivial eds_nil (hx0 _) (by kernel_rfl)))) (by show 2 ≤ 100000; decide)))))
    rw [filter_true] at l6
    have i6 := i5.ex e6
    refine q p1 _ H6 (by rw [hsk]; exact i6) ((T4.trans (To.ex _ e5)).trans (To.ex _ e6)) (T4.back (Evl.fresh_back e5 hp1)) (i5.new hp1) ?_
    rw [hsk]
    show LstAt K H6 p1 ((h4.others.map fun o => (⟨h.nm, o, h.promised + 1, .seek h.epoch h.lst⟩ : Letter)).map dL)
    rw [List.map_map]
    exact l6
/-- a changing method may be asked with a house that is settled -/
abbrev spPut (K : PySem.W.Frag) : Sp := spM K (fun e : Ent => [dE e]) (fun h e => h.fresh ≤ 10000000 ∧ h.row.length ≤ 1000 ∧ h.taken.length ≤ 50 ∧ 1 ≤ e.2 ∧ h.settled = true) (fun h e => h.put e)
theorem sc_H_put : FnScope ["self", "entry", "prior", "number", "place", "some", "other", "letters"] ["self", "entry"] (defScope m_put) := ⟨rfl, rfl, rfl, by decide +kernel, rfl, by decide +kernel, by decide +kernel⟩
theorem ok_put (T : TX w K mg) : Cal P w K mg base 7 (He.ma K (CH K) "put") ["self", "entry"] (spPut K) [] := by
  have C_is_entry := ok_is_entry (P := P) (base := base) T
  have M_is_settled := ok_is_settled (P := P) (base := base) T
  have M_last := ok_last (P := P) (base := base) T
  have M_others := ok_others (P := P) (base := base) T
  have M_say := (ok_say (P := P) (base := base) T).1
  have M_look_done := ok_look_done (P := P) (base := base) T
  refine cal_M T 48 (d := e_put) rfl rfl rfl sc_H_put (fun _ => rfl) (fun _ _ _ _ _ _ us hl => match us, hl with | [_, _], _ => rfl) fun cdv A outer s H vs E x h en hr i wh hpre hv => ?_
  obtain ⟨v, rfl, hd⟩ := dpA1 hv
  obtain ⟨hf, hrl, htl, h1, hs⟩ := hpre
  refine ⟨_, (pss_cons (ps_if (pt_not (pt_val (pe_k C_is_entry (hr.mono (by decide)) (by rfl) T.g_is_entry (pa_cons (pv 1) pa_nil)))) pss_never pss_nil)
    (pss_cons (ps_if (pt_not (pt_val (pe_m0 T.cls T.m_is_settled M_is_settled (hr.mono (by decide)) (pv 0)))) pss_never pss_nil)
    (pss_cons (ps_asg (pe_m0 T.cls T.m_last M_last (hr.mono (by decide)) (pv 0)) (pg_name (i := 2) sc_H_put.nd rfl (by first | exact Or.inl rfl | exact Or.inr rfl)))
    (pss_cons (ps_asg (pe_ifExp (pt_cmpR op_eq (pe_ix ix_tup (pv 2) pe_int (fun _ _ => rfl)) (pe_fld (pv 0) rfl) (nomark _)) (pe_op op_add (pe_ix ix_tup (pv 2) pe_int (fun _ _ => rfl)) pe_int) pe_int) (pg_name (i := 3) sc_H_put.nd rfl (by first | exact Or.inl rfl | exact Or.inr rfl)))
    (pss_cons (ps_asg (pe_tup (pa_cons (pe_fld (pv 0) rfl) (pa_cons (pv 3) pa_nil))) (pg_name (i := 4) sc_H_put.nd rfl (by first | exact Or.inl rfl | exact Or.inr rfl)))
    (pss_cons (ps_expr (pe_bm PySem.F.plainAttrs_list PySem.F.slot_list_append PySem.F.type_list_append mt_append (pe_fld (pv 0) rfl) (pa_cons (pe_tup (pa_cons (pv 4) (pa_cons (pv 1) pa_nil))) pa_nil)))
    (pss_cons (ps_dput (u1 hr) (pe_fld (pv 0) rfl) (pe_fld (pv 0) rfl) (pv 4) rfl)
    (pss_cons (ps_setLc (i := 5) (own := [("other", 6)]) (g := gName 6) (by rfl) sc_H_put.nd rfl rfl (sw_true rfl rfl rfl (by decide +kernel)) (pi_list (pe_m0 T.cls T.m_others M_others (hr.mono (by decide)) (pv 0))) (blkOk_by (own := [("other", 6)]) (N := ["self", "entry", "prior", "number", "place", "some", "other", "letters"]) (sc := defScope m_put) (by decide +kernel)) (fun _ _ _ _ _ => pg_name (i := 6) sc_H_put.nd rfl (Or.inl rfl)) (fun _ _ _ _ _ => (pts_one (pt_cmp (pc_din (u1 hr) (pv 6) (pe_fldK (K := K) (pv 0) rfl))))) (fun _ _ _ _ _ => (pv 6)))
    (pss_cons (ps_setLc (i := 7) (own := [("other", 6)]) (g := gName 6) (by rfl) sc_H_put.nd rfl rfl (sw_true rfl rfl rfl (by decide +kernel)) (pi_list (pv 5)) (blkOk_by (own := [("other", 6)]) (N := ["self", "entry", "prior", "number", "place", "some", "other", "letters"]) (sc := defScope m_put) (by decide +kernel)) (fun _ _ _ _ _ => pg_name (i := 6) sc_H_put.nd rfl (Or.inl rfl)) (fun _ _ _ _ _ => pts_nil) (fun _ _ _ _ _ => (pe_m T.cls T.m_say M_say (hr.mono (by decide)) (pv 0) (pa_cons pe_str (pa_cons (pv 6) (pa_cons (pe_fldK (K := K) (pv 0) rfl) (pa_cons (pe_tup (pa_cons (pv 2) (pa_cons (pv 4) (pa_cons (pv 1) pa_nil)))) pa_nil)))))))
    (pss_one (ps_ret (pe_op op_cat (pv 7) (pe_m0 T.cls T.m_look_done M_look_done (hr.mono (by decide)) (pv 0)))))))))))))), fun D q => ?_⟩
  refine q_ifF (et_n (et_b (evd_F en h1 (eds_one (evd_var (i := 1) hd (by rfl)))))) fun H1 e1 => ?_
  refine q_ifF (et_n (et_to (et_b (evd_P (m := "is_settled") (res := fun h (_ : Unit) => .bool h.settled) (i.ex e1) wh () trivial eds_nil (by rfl) (by kernel_rfl))) hs)) fun H2 e2 => ?_
  have i2 := (i.ex e1).ex e2
  refine q_asgD (evd_P (m := "last") (res := fun h (_ : Unit) => dP h.lst) i2 wh () trivial eds_nil (by rfl) (by kernel_rfl)) fun vp H3 e3 d3 => ?_
  have i3 := i2.ex e3
  let num : Nat := if h.lst.1 = h.epoch then h.lst.2 + 1 else 1
  refine q_asgD (d := dI num) (evd_if (b := decide (h.lst.1 = h.epoch)) (et_to (et_t (evd_op (evd_op (evd_var (i := 2) d3 (by rfl)) evd_int (rd_ixT (d := dI h.lst.1) rfl)) (evd_epoch T.cls i3 T.a_own_epoch (by rfl)) (rd_eqI (a := (h.lst.1 : Int)) (b := (h.epoch : Int))))) (dec_nat _ _))
    (fun c => (evd_op (evd_op (evd_var (i := 2) d3 (by rfl)) evd_int (rd_ixT (d := dI h.lst.2) rfl)) evd_int (rd_I0 (z := dI (h.lst.2 + 1)) fun H => .int _)).to (by show dI _ = dI _; congr 1; exact (if_pos (of_decide_eq_true c)).symm)) fun c => evd_int.to (by show dI 1 = dI _; congr 1; exact (if_neg (of_decide_eq_false c)).symm)) fun vn H4 e4 d4 => ?_
  simp only [L2.start, List.map_cons, List.map_nil, List.length_cons, List.length_nil, List.replicate_succ, List.replicate_zero, List.cons_append, List.nil_append, List.set_cons_zero, List.set_cons_succ, Nat.reduceAdd, Nat.reduceSub]
  have i4 := i3.ex e4
  let pl : Place := (h.epoch, num)
  refine q_asgD (evd_tup (ds := [dI h.epoch, dI num]) (eds_cons (evd_epoch T.cls i4 T.a_own_epoch (by rfl)) (eds_one (evd_var (i := 3) d4 (by rfl)))) (by show 2 ≤ 100000; decide)) fun vpl H5 e5 d5 => ?_
  have d5 : Dp K H5 vpl (dP pl) := d5
  have i5 := i4.ex e5
  have E5 := (((e1.trans e2).trans e3).trans e4).trans e5
  simp only [L2.start, List.map_cons, List.map_nil, List.length_cons, List.length_nil, List.replicate_succ, List.replicate_zero, List.cons_append, List.nil_append, List.set_cons_zero, List.set_cons_succ, Nat.reduceAdd, Nat.reduceSub]
  -- self.own_row.append((place, entry))
  obtain ⟨ws, r1, r2⟩ := i5.r.row
  have hwl : ws.length = h.row.length := by rw [dpA_len r2, List.length_map]
  refine c_drop (c_appD (d := dT (pl, en)) (ev_f T.cls T.a_own_row i5 l_row (by rfl)) r1 (by omega) (eds_one (evd_tup (ds := [dP pl, dE en]) (eds_cons (evd_var (i := 4) d5 (by rfl)) (eds_one (evd_var (i := 1) (dp_ex E5 hd) (by rfl)))) (by show 2 ≤ 100000; decide))) fun y H6 e6 d6 => ?_)
  have i6 := i5.ex e6
  obtain ⟨i7, t7⟩ := i6.setRow (ws := ws ++ [y]) (r := h.row ++ [(pl, en)]) (by rw [List.map_append]; exact dpA_app (dpA_ex e6 r2) (dpA_one d6))
  have t6 := (To.ex x (E5.trans e6)).trans t7
  have d5b := t7.dp i6 (imm_dP pl) (dp_ex e6 d5)
  -- self.taken[self.own_name] = place
  obtain ⟨kv, k1, k2⟩ := i7.r.tak
  refine c_dput (c_var (i := 4) (ev_taken T.cls i7 T.a_taken (by rfl) _ (Evl.Ex.refl _) _ fun H8 e8 => ev_f T.cls T.a_own_name i7 l_name (by rfl) _ e8 _ fun H9 e9 => ?_) (by rfl))
  have e89 := e8.trans e9
  have hkl := drep_len k2
  refine ⟨x.tak, _, rfl, DPut.k (k := Sum.inr (nS h.nm)) (e89 _ _ k1) (Evl.sz_lt (by have : kv.length = h.taken.length := hkl; omega)), ?_⟩
  have i9 := i7.ex e89
  obtain ⟨i10, t10⟩ := i9.setTak (kvs := putK kv (Sum.inr (nS h.nm)) vpl) (d := dput h.taken h.nm pl) (drep_put h.nm (dp_ex e89 d5b) (drep_keep (ex_tups e89) (ex_frz e89) k2))
  let h1' : House := { h with row := h.row ++ [(pl, en)], taken := dput h.taken h.nm pl }
  have i10 : HAt K _ x h1' := i10
  have T10 := (t6.trans (To.ex x e89)).trans t10
  have hd10 : Dp K _ v (dE en) := T10.dp i (imm_dE en) hd
  have d3b : Dp K _ vp (dP h.lst) := t10.dp i9 (imm_dP _) (dp_ex e89 (t7.dp i6 (imm_dP _) (dp_ex ((e4.trans e5).trans e6) d3)))
  have d5c : Dp K _ vpl (dP pl) := t10.dp i9 (imm_dP _) (dp_ex e89 d5b)
  generalize L2.upd H9 x.tak (HO.dK (putK kv (Sum.inr (nS h.nm)) vpl)) = H10 at *
  have htl2 : (dput h.taken h.nm pl).length ≤ 100 := by
    unfold dput
    split
    · rw [List.length_map]; omega
    · rw [List.length_append]; show _ + 1 ≤ _; omega
  have wh10 : WH h1' := ⟨by show (h.row ++ [(pl, en)]).length ≤ 2000; rw [List.length_append]; show _ + 1 ≤ _; omega, fun t ht => by
    rcases List.mem_append.mp ht with ht | ht
    · exact wh.ent t ht
    · rw [List.mem_singleton.mp ht]; exact h1, wh.fresh, wh.prom, htl2, wh.mem⟩
  obtain ⟨kv2, m1, m2⟩ := i10.r.tak
  refine q_asgN (K := K) (evn_others (h := h1') i10 wh10 (fun o => dhas h1'.taken o) dN (fun o => imm_dN o) (fun o v H11 e11 hv11 => et_b (evd_din (evd_var hv11 (by rfl)) (ev_taken (h := h1') T.cls (i10.ex e11) T.a_taken (by rfl)) (e11 _ _ m1) (drep_keep (ex_tups e11) (ex_frz e11) m2))) (fun o _ v H11 e11 hv11 _ => evd_var hv11 (by rfl)) (by rfl)) fun ps H11 hps e11 l11 => ?_
  simp only [L2.start, List.map_cons, List.map_nil, List.length_cons, List.length_nil, List.replicate_succ, List.replicate_zero, List.cons_append, List.nil_append, List.set_cons_zero, List.set_cons_succ, Nat.reduceAdd, Nat.reduceSub]
  have i11 := i10.ex e11
  have d3c := dp_ex e11 d3b
  have d5d := dp_ex e11 d5c
  have hde := dp_ex e11 hd10
  have hol : (h1'.others.filter fun o => dhas h1'.taken o).length ≤ h.mem.length := Nat.le_trans (filter_len _ _) (filter_len _ _)
  have hmem := wh.mem
  refine q_asgN (K := K) (evn_lc (xs := h1'.others.filter fun o => dhas h1'.taken o) (g := dN) (fun _ => true) (fun o => dL ⟨h.nm, o, h.epoch, .propose h.lst pl en⟩) (evd_var (i := 5) l11.dp (by rfl)) (by omega) (fun _ _ => imm_dL _) (fun _ _ _ _ _ _ => et_yes) ?_) fun p1 H12 hp1 e12 l12 => ?_
  · intro o ho v H13 e13 hv13 _
    refine evd_say (h := h1') (.propose h.lst pl en) (i11.ex e13) wh10 ?_ (by rfl)
    refine eds_cons evd_str (eds_cons (evd_var hv13 (by rfl)) (eds_cons (evd_epoch (h := h1') T.cls (i11.ex e13) T.a_own_epoch (by rfl)) (eds_one (evd_tup ?_ (by show 3 ≤ 100000; decide)))))
    exact eds_cons (evd_var (i := 2) (dp_ex e13 d3c) (by rfl)) (eds_cons (evd_var (i := 4) (dp_ex e13 d5d) (by rfl)) (eds_one (evd_var (i := 1) (dp_ex e13 hde) (by rfl))))
  simp only [L2.start, List.map_cons, List.map_nil, List.length_cons, List.length_nil, List.replicate_succ, List.replicate_zero, List.cons_append, List.nil_append, List.set_cons_zero, List.set_cons_succ, Nat.reduceAdd, Nat.reduceSub]
  rw [filter_true] at l12
  have i12 := i11.ex e12
  have eL : (h1'.others.filter fun o => dhas h1'.taken o).map (fun o => dL ⟨h.nm, o, h.epoch, .propose h.lst pl en⟩) = ((h1'.others.filter fun o => dhas h1'.taken o).map fun o => (⟨h.nm, o, h.epoch, .propose h.lst pl en⟩ : Letter)).map dL := by rw [List.map_map]; rfl
  rw [eL] at l12
  have hld := lookDone_len h1'
  refine ret_cat (m := "look_done") (f := fun h (_ : Unit) => h.lookDone) (pre := fun h _ => h.fresh ≤ 10000000) i12 wh10 () hf eds_nil l12 (i11.new hp1) (by rw [List.length_map]; have : h1'.mem.length = h.mem.length := rfl; omega) (by rfl) (by rfl) (by kernel_rfl) fun p3 x' H' i' t' hn no l' => ?_
  exact q p3 x' H' i' ((T10.trans (To.ex _ (e11.trans e12))).trans t') (T10.back (Evl.fresh_back (e11.trans e12) hn)) no l'
end
end Wn

set_option Elab.async false
set_option linter.all false
set_option maxRecDepth 100000
set_option maxHeartbeats 4000000
/-! methods (9): ends, beat. -/
namespace Wn
open PySem PySem.Spec PyProof.Rows L2
open Zab hiding World Place Row
section
variable {P : Program} {w : World} {K : PySem.W.Frag} {mg : Str → Option Value} {base : Heap}
theorem SOk.strs {H : Hp} {ks : List (Key × V)} (h : SOk K H ks) : ∃ ss : List Str, ks.map (·.1) = ss.map Sum.inr ∧ ss.length ≤ 2 := by
  obtain ⟨bs, h1, h2⟩ := h.key
  refine ⟨bs.map whoS, by rw [h2, List.map_map]; rfl, by rw [List.length_map]; exact bools_le h1⟩
abbrev spEnds (K : PySem.W.Frag) : Sp := spPN K e0 pre0 (fun _ _ => [])
theorem sc_H_ends : FnScope ["self", "letters", "nodes", "sessions", "asker", "limit", "rest"] ["self"] (defScope m_ends) := ⟨rfl, rfl, rfl, by decide +kernel, rfl, by decide +kernel, by decide +kernel⟩
theorem ok_ends (T : TX w K mg) : Cal P w K mg base 3 (He.ma K (CH K) "ends") ["self"] (spEnds K) [] := by
  have M_is_settled := ok_is_settled (P := P) (base := base) T
  refine cal_PN T 51 (d := e_ends) rfl rfl rfl sc_H_ends (fun _ => rfl) (fun _ _ _ _ _ _ us hl => match us, hl with | [_], _ => rfl) fun cdv A outer s H vs E x h a hr i wh _ hv => ?_
  obtain rfl := dpA0 hv
  refine ⟨_, (pss_cons (ps_asg (pe_lst pa_nil) (pg_name (i := 1) sc_H_ends.nd rfl (by first | exact Or.inl rfl | exact Or.inr rfl)))
    (pss_cons (ps_asg (pe_fld (pv 0) rfl) (pg_tup rfl (pgs_cons (pg_name (i := 2) sc_H_ends.nd rfl (by first | exact Or.inl rfl | exact Or.inr rfl)) (pgs_cons (pg_name (i := 3) sc_H_ends.nd rfl (by first | exact Or.inl rfl | exact Or.inr rfl)) pgs_nil))))
    (pss_cons (ps_for PassesOwn.never rfl (pi_list (pe_callB (call_sortedD rfl) (by rfl) T.b_sorted bt_sorted (pa_cons (pv 3) pa_nil))) (pg_name (i := 4) sc_H_ends.nd rfl (by first | exact Or.inl rfl | exact Or.inr rfl)) (pss_cons (ps_asg (pe_dget (u1 hr) (pv 3) (pv 4) (fun _ _ => rfl)) (pg_star rfl (pgs_cons (pg_name (i := 5) sc_H_ends.nd rfl (by first | exact Or.inl rfl | exact Or.inr rfl)) (pgs_star (pg_name (i := 6) sc_H_ends.nd rfl (by first | exact Or.inl rfl | exact Or.inr rfl)) pgs_nil))))
    (pss_one (ps_if (PW.pt (pw_and (pt_cmpR op_notN (pv 5) pe_non (nomark _)) (pw_and1 (pt_val (pe_m0 T.cls T.m_is_settled M_is_settled (hr.mono (by decide)) (pv 0)))))) pss_never pss_nil))))
    (pss_one (ps_ret (pv 1)))))), fun D q => ?_⟩
  refine q_asgN (K := K) (evn_lst eds_nil) fun p0 H1 hp0 e1 l1 => ?_
  simp only [L2.start, List.map_cons, List.map_nil, List.length_cons, List.length_nil, List.replicate_succ, List.replicate_zero, List.cons_append, List.nil_append, List.set_cons_zero, List.set_cons_succ, Nat.reduceAdd, Nat.reduceSub]
  have i1 := i.ex e1
  refine c_asg (ev_f T.cls T.a_own_state i1 l_state (by rfl) H1 (Evl.Ex.refl _) _ fun H2 e2 => ?_)
  have i2 := i1.ex e2
  refine ⟨x.st, _, rfl, i2.r.st, rfl, _, _, rfl, _, _, rfl, rfl, ?_⟩
  simp only [L2.start, List.map_cons, List.map_nil, List.length_cons, List.length_nil, List.replicate_succ, List.replicate_zero, List.cons_append, List.nil_append, List.set_cons_zero, List.set_cons_succ, Nat.reduceAdd, Nat.reduceSub]
  obtain ⟨ks, s1, s2⟩ := i2.r.sts
  obtain ⟨ss, hss, hsl⟩ := s2.strs
  refine c_for ?_
  unfold tFor iList
  refine c_cb (c_cons (c_var (i := 3) (c_nil ⟨x.sts, ks, ss, rfl, .inl s1, hss, by omega, fun ys b hperm _ hb => ?_⟩) (by rfl)))
  have e3 := Evl.Ex.new (o := HO.lst (ys.map V.str)) hb
  have i3 := i2.ex e3
  have E3 := (e1.trans e2).trans e3
  have l3 := l1.ex (e2.trans e3)
  have hb3 : upd H2 b (HO.lst (ys.map V.str)) b = some (.lst (ys.map V.str)) := upd_same
  have s13 := e3 _ _ s1
  have s23 := s2.keep (ex_tups e3) (ex_frz e3)
  generalize upd H2 b (HO.lst (ys.map V.str)) = H3 at *
  refine ⟨b, rfl, ⟨ys.map V.str, .of hb3⟩, for_list (xs := ys.map V.str) (fun k σ H' => ∃ y1 y2 y3, σ = [some (.ref x.p), some (.ref p0), some (.ref x.stn), some (.ref x.sts), y1, y2, y3] ∧ Ex H3 H') ⟨_, _, _, rfl, Evl.Ex.refl _⟩ ?_ ?_ ?_⟩
  · rintro k σ H' _ ⟨y1, y2, y3, rfl, e4⟩
    exact .of (e4 _ _ hb3)
  · rintro k xx σ H' hx ⟨y1, y2, y3, rfl, e4⟩
    rw [List.getElem?_map] at hx
    obtain ⟨y, hy, rfl⟩ := Option.map_eq_some_iff.mp hx
    have hmem : y ∈ ss := hperm.mem_iff.mp (List.mem_of_getElem? hy)
    have hk : Sum.inr y ∈ ks.map (·.1) := by rw [hss]; exact List.mem_map.mpr ⟨y, hmem, rfl⟩
    obtain ⟨v, hvv⟩ : ∃ v, valV ks (Sum.inr y) = some v := by
      cases z : valV ks (Sum.inr y) with
      | some v => exact ⟨v, rfl⟩
      | none =>
        exfalso
        obtain ⟨kv, h1, h2⟩ := List.mem_map.mp hk
        unfold valV at z
        have := Option.map_eq_none_iff.mp z
        have := List.find?_eq_none.mp this kv h1
        exact this (by simp [h2])
    obtain ⟨n, da, p, hi, hdv⟩ := (s23.keep (ex_tups e4) (ex_frz e4)).val hvv
    show tSeq _ _ _ _ _
    refine c_asg (c_var (i := 3) (c_var (i := 4) ⟨x.sts, v, rfl, by rw [← hvv]; exact DGet.k (k := Sum.inr y) (e4 _ _ s13), ?_⟩ (by rfl)) (by rfl))
    obtain ⟨av, xs, rfl, g1, g2⟩ := dp_tup hdv
    obtain ⟨z1, z2, z3, z4, rfl, w1, w2, w3, w4⟩ := dpA4 g2
    rw [dp_non w1] at g1
    refine ⟨av, _, rfl, g1, by show 1 ≤ 4; decide, by show 4 ≤ 16384; decide, fun pr hpr => ⟨_, _, rfl, _, _, rfl, rfl, ?_⟩⟩
    have e5 := Evl.Ex.new (o := HO.lst [z2, z3, z4]) hpr
    simp only [L2.start, List.map_cons, List.map_nil, List.length_cons, List.length_nil, List.replicate_succ, List.replicate_zero, List.cons_append, List.nil_append, List.set_cons_zero, List.set_cons_succ, Nat.reduceAdd, Nat.reduceSub]
    refine s_ifF (Evl.et_is (Evl.et_and (a := false) (b := false) (Evl.et_test (Evl.ev_op (x := .non) (y := .non) (z := .bl false) (ev_var (i := 5) (by rfl)) Evl.ev_c fun H1 _ Q k => ⟨rfl, k H1 (Evl.Ex.refl _)⟩)) fun z => by cases z) rfl) fun H6 e6 => ?_
    exact ⟨_, _, _, rfl, (e4.trans e5).trans e6⟩
  · rintro σ H' ⟨y1, y2, y3, rfl, e4⟩
    exact c_ret (c_var (i := 1) (q p0 H' hp0 (E3.trans e4) (l3.ex e4)) (by rfl))
abbrev spBeat (K : PySem.W.Frag) : Sp := spM K e0 (fun _ _ => True) (fun h _ => h.beat)
theorem beatFor_len (h : House) (o : Nat) : (h.beatFor o).length ≤ h.row.length + 1 := by
  unfold House.beatFor
  split
  · show 1 ≤ _; omega
  · split
    · show 1 ≤ _; omega
    · rw [List.length_append, chain_len]
      exact Nat.succ_le_succ (filter_len _ _)
theorem flat_len {α : Type} (g : α → List Letter) (n : Nat) : ∀ l : List α, (∀ a ∈ l, (g a).length ≤ n) → (l.flatMap g).length ≤ l.length * n
  | [], _ => Nat.zero_le _
  | a :: l, h => by
    rw [List.flatMap_cons, List.length_append, List.length_cons, Nat.succ_mul]
    have := h a (List.mem_cons_self ..)
    have := flat_len g n l fun b hb => h b (List.mem_cons_of_mem _ hb)
    omega
theorem sc_H_beat : FnScope ["self", "letters", "other"] ["self"] (defScope m_beat) := ⟨rfl, rfl, rfl, by decide +kernel, rfl, by decide +kernel, by decide +kernel⟩
theorem ok_beat (T : TX w K mg) : Cal P w K mg base 5 (He.ma K (CH K) "beat") ["self"] (spBeat K) [] := by
  have M_others := ok_others (P := P) (base := base) T
  have M_beat_for := ok_beat_for (P := P) (base := base) T
  have M_ends := ok_ends (P := P) (base := base) T
  refine cal_M T 49 (d := e_beat) rfl rfl rfl sc_H_beat (fun _ => rfl) (fun _ _ _ _ _ _ us hl => match us, hl with | [_], _ => rfl) fun cdv A outer s H vs E x h a hr i wh _ hv => ?_
  obtain rfl := dpA0 hv
  refine ⟨_, (pss_cons (ps_if (pt_cmpR op_ne (pe_fld (pv 0) rfl) pe_str (nomark _)) (pss_one (ps_ret (pe_lst pa_nil))) pss_nil)
    (pss_cons (ps_fldaug (pv 0) pe_int in_add)
    (pss_cons (ps_asg (pe_lst pa_nil) (pg_name (i := 1) sc_H_beat.nd rfl (by first | exact Or.inl rfl | exact Or.inr rfl)))
    (pss_cons (ps_for PassesOwn.never rfl (pi_list (pe_m0 T.cls T.m_others M_others (hr.mono (by decide)) (pv 0))) (pg_name (i := 2) sc_H_beat.nd rfl (by first | exact Or.inl rfl | exact Or.inr rfl)) (pss_one (ps_expr (pe_bm PySem.F.plainAttrs_list PySem.F.slot_list_extend PySem.F.type_list_extend mt_extend (pv 1) (pa_cons (pe_m T.cls T.m_beat_for M_beat_for (hr.mono (by decide)) (pv 0) (pa_cons (pv 2) pa_nil)) pa_nil)))))
    (pss_one (ps_ret (pe_op op_cat (pv 1) (pe_m0 T.cls T.m_ends M_ends (hr.mono (by decide)) (pv 0))))))))), fun D q => ?_⟩
  refine Evl.q_when (b := !decide (h.role = .leads)) (et_to (et_t (evd_op (evd_role T.cls i T.a_own_role (by rfl)) evd_str (rd_neS (a := roleS h.role) (b := "leads")))) (by rw [role_leads])) (fun c H1 e1 => ?_) fun c H1 e1 => ?_
  · have c : ¬ h.role = .leads := by
      intro z
      rw [decide_eq_true z] at c
      cases c
    have hb : h.beat = (h, []) := if_neg c
    refine s_retN (K := K) (evn_lst eds_nil) fun p H2 hp e2 l2 => ?_
    have hpH := Evl.fresh_back e1 hp
    exact q p x H2 (by rw [hb]; exact i.ex (e1.trans e2)) (To.ex x (e1.trans e2)) hpH (i.new hpH) (by rw [hb]; exact l2)
  · have c : h.role = .leads := by
      cases z : decide (h.role = .leads) with
      | true => exact of_decide_eq_true z
      | false => rw [z] at c; cases c
    have hb : h.beat = ({ h with clock := h.clock + 1 }, ({ h with clock := h.clock + 1 } : House).others.flatMap ({ h with clock := h.clock + 1 } : House).beatFor) := if_pos c
    let g : House := { h with clock := h.clock + 1 }
    refine q_aug (n := h.clock) (h' := g) (by rfl) T.cls T.a_own_clock (i.ex e1) l_clock p_clock ((i.ex e1).r.of) fun H2 i2 t2 => ?_
    have wg : WH g := ⟨wh.row, wh.ent, wh.fresh, wh.prom, wh.tak, wh.mem⟩
    have T2 := (To.ex x e1).trans t2
    refine q_asgN (K := K) (evn_lst eds_nil) fun p0 H3 hp0 e3 l3 => ?_
    simp only [L2.start, List.map_cons, List.map_nil, List.length_cons, List.length_nil, List.replicate_succ, List.replicate_zero, List.cons_append, List.nil_append, List.set_cons_zero, List.set_cons_succ, Nat.reduceAdd, Nat.reduceSub]
    obtain ⟨as0, l3a, l3b⟩ := l3
    obtain rfl := dpA0 l3b
    have i3 := i2.ex e3
    have no : ¬ Own x p0 := i2.new hp0
    refine c_for (evn_P (m := "others") (res := fun h (_ : Unit) => h.others.map dN) i3 wg () trivial eds_nil (by rfl) (by kernel_rfl) H3 (Evl.Ex.refl _) _ fun b H4 hb4 e4 l4 => ?_)
    obtain ⟨ws, l4a, l4b⟩ := l4
    have hwl : ws.length = g.others.length := by rw [dpA_len l4b, List.length_map]
    have nb : b ≠ p0 := fun z => by rw [z, l3a] at hb4; cases hb4
    have hol : g.others.length ≤ 100 := Nat.le_trans (filter_len _ _) wh.mem
    have hrl := wh.row
    refine ⟨b, rfl, ⟨ws, .of l4a⟩, for_list (xs := ws) (fun k σ H' => ∃ y acc, σ = [some (.ref x.p), some (.ref p0), y] ∧ Ex H2 H' ∧ HAt K H' x g ∧ H' b = some (.lst ws) ∧ DpAll K H' ws (g.others.map dN) ∧ H' p0 = some (.lst acc) ∧ DpAll K H' acc (((g.others.take k).flatMap g.beatFor).map dL))
      ⟨_, [], rfl, e3.trans e4, i3.ex e4, l4a, l4b, e4 _ _ l3a, .nil⟩ ?_ ?_ ?_⟩
    · rintro k σ H' _ ⟨y, acc, rfl, a1, a2, a3, a4, a5, a6⟩
      exact .of a3
    · rintro k xx σ H' hx ⟨y, acc, rfl, a1, a2, a3, a4, a5, a6⟩
      obtain ⟨dd, hd1, hxd⟩ := dpA_get' a4 hx
      rw [List.getElem?_map] at hd1
      obtain ⟨o, hoe, rfl⟩ := Option.map_eq_some_iff.mp hd1
      show tDrop _ _ _ _
      simp only [L2.start, List.map_cons, List.map_nil, List.length_cons, List.length_nil, List.replicate_succ, List.replicate_zero, List.cons_append, List.nil_append, List.set_cons_zero, List.set_cons_succ, Nat.reduceAdd, Nat.reduceSub]
      have hk : (g.others.take (k + 1)).flatMap g.beatFor = (g.others.take k).flatMap g.beatFor ++ g.beatFor o := by
        rw [List.take_add_one, hoe, List.flatMap_append]
        show _ ++ (g.beatFor o ++ []) = _
        rw [List.append_nil]
      have hal : acc.length ≤ 100 * 2001 := by
        rw [dpA_len a6, List.length_map]
        have h1 := flat_len g.beatFor 2001 (g.others.take k) fun a _ => Nat.le_trans (beatFor_len g a) (by show h.row.length + 1 ≤ _; omega)
        have h2 : (g.others.take k).length ≤ 100 := by rw [List.length_take]; omega
        have h3 := Nat.mul_le_mul_right 2001 h2
        omega
      refine c_drop1 (ev_var (i := 1) (v := .ref p0) (by rfl) H' (Evl.Ex.refl _) _ fun H5 e5 => ⟨.inl ⟨rfl, acc, .of (e5 _ _ a5)⟩, ?_⟩)
      refine c_cons (evn_P (m := "beat_for") (res := fun h (o : Nat) => (h.beatFor o).map dL) (a2.ex e5) wg o trivial (eds_one (evd_var (i := 2) (dp_ex e5 hxd) (by rfl))) (by rfl) (by kernel_rfl) H5 (Evl.Ex.refl _) _ fun pz H6 hpz e6 l6 => c_nil ?_)
      obtain ⟨zs, z1, z2⟩ := l6
      have hzl := dpA_len z2
      rw [List.length_map] at hzl
      have hbl := beatFor_len g o
      have hgr : g.row.length ≤ 2000 := hrl
      have b6 := (e5.trans e6) _ _ a5
      have e56 := e5.trans e6
      refine ⟨p0, pz, acc, zs, rfl, rfl, b6, z1, by rw [sizeLine_eq]; omega, ?_⟩
      have tu := tups_upd (o := .lst (acc ++ zs)) b6
      have fr := frz_upd (o := .lst (acc ++ zs)) b6
      refine ⟨_, acc ++ zs, rfl, Evl.Ex.mut (a1.trans e56) hp0, (a2.ex e56).far b6 no, by rw [upd_ne nb]; exact e56 _ _ a3, dpA_keep tu fr (imm_map imm_dN _) (dpA_ex e56 a4), upd_same, ?_⟩
      rw [hk, List.map_append]
      exact dpA_app (dpA_keep tu fr (imm_map imm_dL _) (dpA_ex e56 a6)) (dpA_keep tu fr (imm_map imm_dL _) z2)
    · rintro σ H' ⟨y, acc, rfl, a1, a2, a3, a4, a5, a6⟩
      rw [hwl, List.take_length] at a6
      have es : EvN K (tMeth (CH K) "ends" (spEnds K) [] E0 (tVar 0) tNil) [some (.ref x.p), some (.ref p0), y] H' [] := evn_P (m := "ends") (res := fun _ (_ : Unit) => []) a2 wg () trivial eds_nil (by rfl) (by kernel_rfl)
      refine c_ret (c_rgl (c_var (i := 1) (es H' (Evl.Ex.refl _) _ fun p2 H7 hp2 e7 l7 => ?_) (by rfl)))
      obtain ⟨zs, z1, z2⟩ := l7
      obtain rfl := dpA0 z2
      have hal : acc.length ≤ 100 * 2001 := by
        rw [dpA_len a6, List.length_map]
        have h1 := flat_len g.beatFor 2001 g.others fun a _ => Nat.le_trans (beatFor_len g a) (by show h.row.length + 1 ≤ _; omega)
        have h3 := Nat.mul_le_mul_right 2001 hol
        omega
      refine ⟨p0, p2, acc, [], rfl, rfl, e7 _ _ a5, z1, by rw [sizeLine_eq]; show acc.length + 0 ≤ _; omega, fun p3 hp3 => ?_⟩
      have e8 := Evl.Ex.new (o := HO.lst (acc ++ [])) hp3
      have hp3H : H2 p3 = none := Evl.fresh_back (a1.trans e7) hp3
      refine q p3 x _ (by rw [hb]; exact a2.ex (e7.trans e8)) (T2.trans (To.ex x ((a1.trans e7).trans e8))) (T2.back hp3H) (i2.new hp3H) ⟨_, upd_same, ?_⟩
      rw [hb, List.append_nil]
      rw [List.append_nil] at e8
      exact dpA_ex (e7.trans e8) a6
end
end Wn

set_option Elab.async false
set_option linter.all false
set_option maxRecDepth 100000
set_option maxHeartbeats 4000000
/-! methods (10): on_seek, on_lead, on_promise, on_told. -/
namespace Wn
open PySem PySem.Spec PyProof.Rows L2
open Zab hiding World Place Row
structure PreT (h : House) : Prop where
  fresh : h.fresh ≤ 10000000
  row : h.row.length ≤ 1000
  prom : h.promises.length ≤ 50
  tak : h.taken.length ≤ 50
section
variable {K : PySem.W.Frag} {σ : L2.St} {H H1 : Hp} {x x1 : HX} {h1 : House} {te : TE}
/-- a new list is returned, the house as it stands -/
theorem ret_ls {D : Ends} {r : House × List Letter} {ls : List Letter} (T1 : To x H x1 H1) (i1 : HAt K H1 x1 h1) (he : EvN K te σ H1 (ls.map dL)) (hr : r = (h1, ls))
    (q : ∀ p x' H', HAt K H' x' r.1 → To x H x' H' → H p = none → ¬ Own x' p → LstAt K H' p (r.2.map dL) → D.rt (.ref p) H') : tRet te D σ H1 := by
  subst hr
  refine c_ret (he H1 (Evl.Ex.refl _) _ fun p H2 hp e2 l2 => ?_)
  exact q p x1 H2 (i1.ex e2) (T1.trans (To.ex x1 e2)) (T1.back hp) (i1.new hp) l2
theorem evn_none : EvN K (tLst tNil) σ H (([] : List Letter).map dL) := evn_lst eds_nil
end
section
variable {P : Program} {w : World} {K : PySem.W.Frag} {mg : Str → Option Value} {base : Heap}
theorem dec_le (a b : Nat) : decide ((a : Int) ≤ (b : Int)) = decide (a ≤ b) := by
  by_cases c : a ≤ b
  · rw [decide_eq_true c]; exact decide_eq_true (by omega)
  · rw [decide_eq_false c]; exact decide_eq_false (by omega)
theorem dec_lt (a b : Nat) : decide ((a : Int) < (b : Int)) = decide (a < b) := by
  by_cases c : a < b
  · rw [decide_eq_true c]; exact decide_eq_true (by omega)
  · rw [decide_eq_false c]; exact decide_eq_false (by omega)
abbrev spOnSeek (K : PySem.W.Frag) : Sp := spM K (fun a : Nat × Nat × Nat × Place => [dN a.1, dI a.2.1, .tuple [dI a.2.2.1, dP a.2.2.2]]) (fun h _ => PreT h) (fun h a => h.onSeek a.1 a.2.1 a.2.2.1 a.2.2.2)
theorem sc_H_on_seek : FnScope ["self", "other", "epoch", "told"] ["self", "other", "epoch", "told"] (defScope m_on_seek) := ⟨rfl, rfl, rfl, by decide +kernel, rfl, by decide +kernel, by decide +kernel⟩
theorem ok_on_seek (T : TX w K mg) : Cal P w K mg base 3 (He.ma K (CH K) "on_seek") ["self", "other", "epoch", "told"] (spOnSeek K) [] := by
  have M_stand_down := ok_stand_down (P := P) (base := base) T
  have M_last := ok_last (P := P) (base := base) T
  have C_may_promise := ok_may_promise (P := P) (base := base) T
  have M_say := (ok_say (P := P) (base := base) T).1
  refine cal_M T 54 (d := e_on_seek) rfl rfl rfl sc_H_on_seek (fun _ => rfl) (fun _ _ _ _ _ _ us hl => match us, hl with | [_, _, _, _], _ => rfl) fun cdv A outer s H vs E x h a hr i wh hf hv => ?_
  obtain ⟨o, e, ep, la⟩ := a
  obtain ⟨v1, v2, v3, rfl, d1, d2, d3⟩ := dpA3 hv
  have hv2 := dp_int d2
  subst hv2
  have d1 : Dp K H v1 (dN o) := d1
  have d2 : Dp K H (.int (e : Int)) (dI e) := d2
  refine ⟨_, (pss_cons (ps_if (pt_cmpR op_le (pv 2) (pe_fld (pv 0) rfl) (nomark _)) (pss_one (ps_ret (pe_lst pa_nil))) pss_nil)
    (pss_cons (ps_expr (pe_m0 T.cls T.m_stand_down M_stand_down (hr.mono (by decide)) (pv 0)))
    (pss_cons (ps_fld (pv 0) (pv 2) rfl)
    (pss_cons (ps_if (pt_not (pt_val (pe_k C_may_promise (hr.mono (by decide)) (by rfl) T.g_may_promise (pa_cons (pe_fld (pv 0) rfl) (pa_cons (pe_tup (pa_cons (pe_fld (pv 0) rfl) (pa_cons (pe_m0 T.cls T.m_last M_last (hr.mono (by decide)) (pv 0)) pa_nil))) (pa_cons (pv 3) pa_nil)))))) (pss_one (ps_ret (pe_lst pa_nil))) pss_nil)
    (pss_one (ps_ret (pe_lst (pa_cons (pe_m T.cls T.m_say M_say (hr.mono (by decide)) (pv 0) (pa_cons pe_str (pa_cons (pv 1) (pa_cons (pv 2) (pa_cons (pe_tup (pa_cons (pe_m0 T.cls T.m_last M_last (hr.mono (by decide)) (pv 0)) pa_nil)) pa_nil))))) pa_nil)))))))), fun D q => ?_⟩
  refine Evl.q_when (b := decide (e ≤ h.promised)) (et_to (et_t (evd_op (evd_var (i := 2) d2 (by rfl)) (evd_promised T.cls i T.a_own_promised (by rfl)) (rd_I0 (z := .bool (decide ((e : Int) ≤ (h.promised : Int)))) fun H => .bl _))) (dec_le _ _)) (fun c H1 e1 => ?_) fun c H1 e1 => ?_
  · have c := of_decide_eq_true c
    exact ret_ls (To.ex x e1) (i.ex e1) evn_none (by show h.onSeek o e ep la = _; unfold House.onSeek; rw [if_pos c]) q
  · have c := of_decide_eq_false c
    refine q_U (m := "stand_down") (f := fun h (_ : Unit) => h.standDown) (i.ex e1) wh () trivial eds_nil (by rfl) (by kernel_rfl) fun x1 H2 i2 t2 => ?_
    have T2 := (To.ex x e1).trans t2
    have hx0 : ∀ r : L2.St, (some (V.ref x.p) :: r)[0]? = some (some (V.ref x1.p)) := fun r => by rw [T2.p]; rfl
    refine q_fldV (h' := { h.standDown with promised := e }) (hx0 _) T.cls T.a_own_promised i2 (ev_var (i := 2) (by rfl)) p_promised (i2.r.of) fun H3 i3 t3 => ?_
    let g : House := { h.standDown with promised := e }
    have i3 : HAt K H3 x1 g := i3
    have wg : WH g := ⟨wh.row, wh.ent, wh.fresh, Nat.zero_le _, Nat.zero_le _, wh.mem⟩
    have T3 := T2.trans t3
    have d1 := T3.dp i (imm_dN o) d1
    have d3 := T3.dp i (.tup (imm_two (imm_dI ep) (imm_dP la))) d3
    have hm : EvD K (tCall (spMay K) [] E0 (tCons (tFld K (tVar 0) "own_looks") (tCons (tTup (tCons (tFld K (tVar 0) "own_epoch") (tCons (tMeth (CH K) "last" (spLast1 K) [] E0 (tVar 0) tNil) tNil))) (tCons (tVar 3) tNil)))) (start ["self", "other", "epoch", "told"] [.ref x.p, v1, .int (e : Int), v3]) H3 (.bool (decide (h.epoch < ep ∨ (h.epoch = ep ∧ Ple h.lst la)))) :=
      evd_F ((h.epoch, h.lst), (ep, la)) trivial (eds_cons (evd_looks T.cls i3 T.a_own_looks (hx0 _)) (eds_cons (evd_tup (ds := [dI h.epoch, dP h.lst]) (eds_cons (evd_epoch (h := g) T.cls i3 T.a_own_epoch (hx0 _)) (eds_one (evd_P (m := "last") (res := fun h (_ : Unit) => dP h.lst) (h := g) i3 wg () trivial eds_nil (hx0 _) (by kernel_rfl)))) (by show 2 ≤ 100000; decide)) (eds_one (evd_var (i := 3) d3 (by rfl)))))
    refine Evl.q_when (b := !decide (h.epoch < ep ∨ (h.epoch = ep ∧ Ple h.lst la))) (Evl.et_not (et_b hm)) (fun c2 H4 e4 => ?_) fun c2 H4 e4 => ?_
    · have c2 : ¬ (h.epoch < ep ∨ (h.epoch = ep ∧ Ple h.lst la)) := fun z => by rw [decide_eq_true z] at c2; cases c2
      exact ret_ls (T3.trans (To.ex x1 e4)) (i3.ex e4) evn_none (by show h.onSeek o e ep la = _; unfold House.onSeek; rw [if_neg c]; exact if_neg c2) q
    · have c2 : h.epoch < ep ∨ (h.epoch = ep ∧ Ple h.lst la) := by
        cases z : decide (h.epoch < ep ∨ (h.epoch = ep ∧ Ple h.lst la)) with
        | true => exact of_decide_eq_true z
        | false => rw [z] at c2; cases c2
      refine ret_ls (ls := [⟨h.nm, o, e, .promise h.lst⟩]) (T3.trans (To.ex x1 e4)) (i3.ex e4) ?_ (by show h.onSeek o e ep la = _; unfold House.onSeek; rw [if_neg c]; exact if_pos c2) q
      refine evn_lst (eds_one (evd_say (h := g) (.promise h.lst) (i3.ex e4) wg ?_ (hx0 _))) (by show 1 ≤ 100000; decide)
      exact eds_cons evd_str (eds_cons (evd_var (i := 1) (dp_ex e4 d1) (by rfl)) (eds_cons (evd_var (i := 2) (.int _) (by rfl)) (eds_one (evd_tup (eds_one (evd_P (m := "last") (res := fun h (_ : Unit) => dP h.lst) (h := g) (i3.ex e4) wg () trivial eds_nil (hx0 _) (by kernel_rfl))) (by show 1 ≤ 100000; decide)))))
abbrev spOnLead (K : PySem.W.Frag) : Sp := spM K (fun a : Nat × Nat => [dN a.1, dI a.2]) (fun h _ => PreT h) (fun h a => h.onLead a.1 a.2)
theorem role_seeks (r : Role) : decide (roleS r = ("seeks" : Str)) = decide (r = .seeks) := by cases r <;> decide +kernel
theorem sc_H_on_lead : FnScope ["self", "other", "epoch"] ["self", "other", "epoch"] (defScope m_on_lead) := ⟨rfl, rfl, rfl, by decide +kernel, rfl, by decide +kernel, by decide +kernel⟩
theorem ok_on_lead (T : TX w K mg) : Cal P w K mg base 3 (He.ma K (CH K) "on_lead") ["self", "other", "epoch"] (spOnLead K) [] := by
  have M_stand_down := ok_stand_down (P := P) (base := base) T
  have M_last := ok_last (P := P) (base := base) T
  have M_say := (ok_say (P := P) (base := base) T).1
  refine cal_M T 56 (d := e_on_lead) rfl rfl rfl sc_H_on_lead (fun _ => rfl) (fun _ _ _ _ _ _ us hl => match us, hl with | [_, _, _], _ => rfl) fun cdv A outer s H vs E x h a hr i wh hf hv => ?_
  obtain ⟨o, e⟩ := a
  obtain ⟨v1, v2, rfl, d1, d2⟩ := dpA2 hv
  have hv2 := dp_int d2
  subst hv2
  have d1 : Dp K H v1 (dN o) := d1
  have d2 : Dp K H (.int (e : Int)) (dI e) := d2
  refine ⟨_, (pss_cons (ps_if (PW.pt (pw_or (pt_cmpR op_lt (pv 2) (pe_fld (pv 0) rfl) (nomark _)) (pw_or1 (PW.pt (pw_and (pt_cmpR op_eq (pv 2) (pe_fld (pv 0) rfl) (nomark _)) (pw_and1 (pt_cmpR op_ne (pe_fld (pv 0) rfl) pe_str (nomark _)))))))) (pss_one (ps_ret (pe_lst pa_nil))) pss_nil)
    (pss_cons (ps_expr (pe_m0 T.cls T.m_stand_down M_stand_down (hr.mono (by decide)) (pv 0)))
    (pss_cons (ps_fld (pv 0) (pv 2) rfl)
    (pss_one (ps_ret (pe_lst (pa_cons (pe_m T.cls T.m_say M_say (hr.mono (by decide)) (pv 0) (pa_cons pe_str (pa_cons (pv 1) (pa_cons (pv 2) (pa_cons (pe_tup (pa_cons (pe_m0 T.cls T.m_last M_last (hr.mono (by decide)) (pv 0)) pa_nil)) pa_nil))))) pa_nil))))))), fun D q => ?_⟩
  refine Evl.q_when (b := decide (e < h.promised) || (decide (e = h.promised) && !decide (h.role = .seeks))) (Evl.et_or (et_to (et_t (evd_op (evd_var (i := 2) d2 (by rfl)) (evd_promised T.cls i T.a_own_promised (by rfl)) (rd_I0 (z := .bool (decide ((e : Int) < (h.promised : Int)))) fun H => .bl _))) (dec_lt _ _)) fun _ =>
    Evl.et_and (et_to (et_t (evd_op (evd_var (i := 2) d2 (by rfl)) (evd_promised T.cls i T.a_own_promised (by rfl)) (rd_eqI (a := (e : Int)) (b := (h.promised : Int))))) (dec_nat _ _)) fun _ => et_to (et_t (evd_op (evd_role T.cls i T.a_own_role (by rfl)) evd_str (rd_neS (a := roleS h.role) (b := "seeks")))) (by rw [role_seeks])) (fun c H1 e1 => ?_) fun c H1 e1 => ?_
  · have c : e < h.promised ∨ (e = h.promised ∧ h.role ≠ .seeks) := by
      rcases Bool.or_eq_true_iff.mp c with c | c
      · exact .inl (of_decide_eq_true c)
      · obtain ⟨c1, c2⟩ := Bool.and_eq_true_iff.mp c
        exact .inr ⟨of_decide_eq_true c1, fun z => by rw [decide_eq_true z] at c2; cases c2⟩
    exact ret_ls (To.ex x e1) (i.ex e1) evn_none (by show h.onLead o e = _; unfold House.onLead; rw [if_pos c]) q
  · have c : ¬ (e < h.promised ∨ (e = h.promised ∧ h.role ≠ .seeks)) := by
      rintro (z | ⟨z1, z2⟩)
      · rw [decide_eq_true z] at c; cases c
      · rw [decide_eq_true z1, decide_eq_false z2] at c
        rw [Bool.or_eq_false_iff] at c
        cases c.2
    refine q_U (m := "stand_down") (f := fun h (_ : Unit) => h.standDown) (i.ex e1) wh () trivial eds_nil (by rfl) (by kernel_rfl) fun x1 H2 i2 t2 => ?_
    have T2 := (To.ex x e1).trans t2
    have hx0 : ∀ r : L2.St, (some (V.ref x.p) :: r)[0]? = some (some (V.ref x1.p)) := fun r => by rw [T2.p]; rfl
    refine q_fldV (h' := { h.standDown with promised := e }) (hx0 _) T.cls T.a_own_promised i2 (ev_var (i := 2) (by rfl)) p_promised (i2.r.of) fun H3 i3 t3 => ?_
    let g : House := { h.standDown with promised := e }
    have i3 : HAt K H3 x1 g := i3
    have wg : WH g := ⟨wh.row, wh.ent, wh.fresh, Nat.zero_le _, Nat.zero_le _, wh.mem⟩
    have T3 := T2.trans t3
    have d1 := T3.dp i (imm_dN o) d1
    refine ret_ls (ls := [⟨h.nm, o, e, .promise h.lst⟩]) T3 i3 ?_ (by show h.onLead o e = _; unfold House.onLead; rw [if_neg c]) q
    refine evn_lst (eds_one (evd_say (h := g) (.promise h.lst) i3 wg ?_ (hx0 _))) (by show 1 ≤ 100000; decide)
    exact eds_cons evd_str (eds_cons (evd_var (i := 1) d1 (by rfl)) (eds_cons (evd_var (i := 2) (.int _) (by rfl)) (eds_one (evd_tup (eds_one (evd_P (m := "last") (res := fun h (_ : Unit) => dP h.lst) (h := g) i3 wg () trivial eds_nil (hx0 _) (by kernel_rfl))) (by show 1 ≤ 100000; decide)))))
end
end Wn

set_option Elab.async false
set_option linter.all false
set_option maxRecDepth 100000
set_option maxHeartbeats 4000000
/-! methods (11): on_promise, on_told. -/
namespace Wn
open PySem PySem.Spec PyProof.Rows L2
open Zab hiding World Place Row
theorem dput_len (d : Dic) (n : Nat) (p : Place) : (dput d n p).length ≤ d.length + 1 := by
  unfold dput
  split
  · rw [List.length_map]; omega
  · rw [List.length_append]; exact Nat.le_refl _
theorem dget_dput (d : Dic) (n : Nat) (p : Place) : dhas (dput d n p) n = true := by
  have key : ∀ l : Dic, (l.any fun x => decide (x.1 = n)) = true → ((l.map fun x => if x.1 = n then (n, p) else x).find? fun x => decide (x.1 = n)).isSome = true := by
    intro l hl
    rw [List.find?_isSome]
    obtain ⟨x, h1, h2⟩ := List.any_eq_true.mp hl
    have h2 := of_decide_eq_true h2
    exact ⟨(n, p), List.mem_map.mpr ⟨x, h1, if_pos h2⟩, decide_eq_true rfl⟩
  unfold dhas dget
  rw [Option.isSome_map]
  unfold dput
  split
  · rename_i c
    exact key d c
  · rw [List.find?_isSome]
    exact ⟨(n, p), List.mem_append_right _ (List.mem_singleton.mpr rfl), decide_eq_true rfl⟩
section
variable {K : PySem.W.Frag} {σ : L2.St} {H : Hp} {x : HX} {h : House}
/-- self.promises[other] = last -/
theorem q_putProm (cl : Cls K (CH K)) (na : NoAttr K (CH K) "promises") {tz : TS} {D : Ends} {j k : Nat} {n : Nat} {v : V} {p : Place} (i : HAt K H x h) (hz : h.promises.length ≤ 100) (h0 : σ[0]? = some (some (.ref x.p))) (hj : σ[j]? = some (some (.str (nS n)))) (hk : σ[k]? = some (some v)) (hv : Dp K H v (dP p))
    (q : ∀ H1, HAt K H1 x { h with promises := dput h.promises n p } → To x H x H1 → tz D σ H1) : tSeq (sDPut (tFld K (tVar 0) "promises") (tVar j) (tVar k)) tz D σ H := by
  obtain ⟨kv, k1, k2⟩ := i.r.prom
  have hkl := drep_len k2
  refine c_dput (c_var (i := k) (ev_promises cl i na h0 H (Evl.Ex.refl _) _ fun H1 e1 => c_var (i := j) ?_ hj) hk)
  have i1 := i.ex e1
  obtain ⟨i2, t2⟩ := i1.setProm (kvs := putK kv (Sum.inr (nS n)) v) (d := dput h.promises n p) (drep_put n (dp_ex e1 hv) (drep_keep (ex_tups e1) (ex_frz e1) k2))
  exact ⟨x.prom, _, rfl, DPut.k (k := Sum.inr (nS n)) (e1 _ _ k1) (Evl.sz_lt (by omega)), q _ i2 ((To.ex x e1).trans t2)⟩
end
section
variable {P : Program} {w : World} {K : PySem.W.Frag} {mg : Str → Option Value} {base : Heap}
theorem opti_ne (s : Option Nat) (e : Nat) : (!decide (optI s = .int (e : Int))) = decide (s ≠ some e) := by
  cases s with
  | none =>
    have : ¬ (optI none = .int (e : Int)) := fun z => by cases z
    rw [decide_eq_false this]
    exact (decide_eq_true (fun z => by cases z)).symm
  | some m =>
    by_cases c : m = e
    · subst c
      rw [decide_eq_true (show optI (some m) = .int (m : Int) from rfl)]
      exact (decide_eq_false (fun z => z rfl)).symm
    · rw [decide_eq_false (show ¬ (optI (some m) = .int (e : Int)) from fun z => c (by have := V.int.inj z; omega))]
      show true = _
      simp [c]
theorem scal_opti (s : Option Nat) (e : Int) : scal (optI s) (.int e) = true := by cases s <;> rfl
abbrev spOnPromise (K : PySem.W.Frag) : Sp := spM K (fun a : Nat × Nat × Place => [dN a.1, dI a.2.1, dP a.2.2]) (fun h _ => PreT h) (fun h a => h.onPromise a.1 a.2.1 a.2.2)
theorem sc_H_on_promise : FnScope ["self", "other", "epoch", "last"] ["self", "other", "epoch", "last"] (defScope m_on_promise) := ⟨rfl, rfl, rfl, by decide +kernel, rfl, by decide +kernel, by decide +kernel⟩
theorem ok_on_promise (T : TX w K mg) : Cal P w K mg base 8 (He.ma K (CH K) "on_promise") ["self", "other", "epoch", "last"] (spOnPromise K) [] := by
  have M_leads := ok_leads (P := P) (base := base) T
  have M_sync_for := ok_sync_for (P := P) (base := base) T
  have C_most_of := ok_most_of (P := P) (base := base) T
  have M_lead := ok_lead (P := P) (base := base) T
  refine cal_M T 55 (d := e_on_promise) rfl rfl rfl sc_H_on_promise (fun _ => rfl) (fun _ _ _ _ _ _ us hl => match us, hl with | [_, _, _, _], _ => rfl) fun cdv A outer s H vs E x h a hr i wh hf hv => ?_
  obtain ⟨o, e, la⟩ := a
  obtain ⟨v1, v2, v3, rfl, d1, d2, d3⟩ := dpA3 hv
  have hv2 := dp_int d2
  have hv1 := dp_str d1
  subst hv2 hv1
  have d2 : Dp K H (.int (e : Int)) (dI e) := d2
  have d3 : Dp K H v3 (dP la) := d3
  have hprom := hf.prom
  refine ⟨_, (pss_cons (ps_if (pt_val (pe_m T.cls T.m_leads M_leads (hr.mono (by decide)) (pv 0) (pa_cons (pv 2) pa_nil))) (pss_cons (ps_dput (u1 hr) (pe_fld (pv 0) rfl) (pv 1) (pv 3) rfl)
    (pss_cons (ps_expr (pe_dpop2 (pe_fld (pv 0) rfl) (pv 1) pe_non ⟨rfl, rfl, rfl, rfl⟩))
    (pss_one (ps_ret (pe_lst (pa_cons (pe_m T.cls T.m_sync_for M_sync_for (hr.mono (by decide)) (pv 0) (pa_cons (pv 1) pa_nil)) pa_nil)))))) pss_nil)
    (pss_cons (ps_if (PW.pt (pw_or (pt_cmpR op_ne (pv 2) (pe_fld (pv 0) rfl) (nomark _)) (pw_or1 (pt_cmpR op_ne (pe_fld (pv 0) rfl) (pv 2) (nomark _))))) (pss_one (ps_ret (pe_lst pa_nil))) pss_nil)
    (pss_cons (ps_dput (u1 hr) (pe_fld (pv 0) rfl) (pv 1) (pv 3) rfl)
    (pss_one (ps_ret (pe_ifExp (pt_cmpR op_ge (pe_callB call_lenD (by rfl) T.b_len PySem.boot_len (pa_cons (pe_fld (pv 0) rfl) pa_nil)) (pe_k C_most_of (hr.mono (by decide)) (by rfl) T.g_most_of (pa_cons (pe_fld (pv 0) rfl) pa_nil)) (nomark _)) (pe_m0 T.cls T.m_lead M_lead (hr.mono (by decide)) (pv 0)) (pe_lst pa_nil))))))), fun D q => ?_⟩
  refine Evl.q_when (b := h.leadsBy e) (et_b (evd_P (m := "leads") (res := fun h (e : Nat) => .bool (h.leadsBy e)) i wh e trivial (eds_one (evd_var (i := 2) d2 (by rfl))) (by rfl) (by kernel_rfl))) (fun c H1 e1 => ?_) fun c H1 e1 => ?_
  · refine q_putProm T.cls T.a_promises (j := 1) (k := 3) (n := o) (p := la) (i.ex e1) (by show h.promises.length ≤ 100; omega) (by rfl) (by rfl) (by rfl) (dp_ex e1 d3) fun H2 i2 t2 => ?_
    -- self.taken.pop(other, None)
    obtain ⟨kv, k1, k2⟩ := i2.r.tak
    have T2 := (To.ex x e1).trans t2
    let g : House := { h with promises := dput h.promises o la, taken := ddel h.taken o }
    have fin : ∀ H3, HAt K H3 x g → To x H2 x H3 → tRet (tLst (tCons (tMeth (CH K) "sync_for" (spSyncFor K) [] E0 (tVar 0) (tCons (tVar 1) tNil)) tNil)) D (start ["self", "other", "epoch", "last"] [.ref x.p, .str (nS o), .int (e : Int), v3]) H3 := fun H3 i3 t3 => by
      have wg : WH g := ⟨wh.row, wh.ent, wh.fresh, by have := dput_len h.promises o la; show (dput h.promises o la).length ≤ 100; omega, Nat.le_trans (filter_len _ _) wh.tak, wh.mem⟩
      refine ret_ls (ls := [g.syncFor o]) (T2.trans t3) i3 ?_ (by show h.onPromise o e la = _; unfold House.onPromise; rw [if_pos c]) q
      exact evn_lst (eds_one (evd_P (m := "sync_for") (res := fun h (o : Nat) => dL (h.syncFor o)) i3 wg o (dget_dput _ _ _) (eds_one (evd_var (i := 1) (.str _) (by rfl))) (by rfl) (by kernel_rfl))) (by show 1 ≤ 100000; decide)
    refine c_drop (ev_taken T.cls i2 T.a_taken (by rfl) H2 (Evl.Ex.refl _) _ fun H3 e3 => ⟨x.tak, rfl, .inl ⟨kv, .inl (e3 _ _ k1)⟩, c_var (i := 1) (c_c ⟨kv, Sum.inr (nS o), e3 _ _ k1, rfl, fun v hv => ?_, fun hn => ?_⟩) (by rfl)⟩)
    · obtain ⟨i4, t4⟩ := (i2.ex e3).setTak (kvs := dropK kv (Sum.inr (nS o))) (d := ddel h.taken o) (drep_drop o (drep_keep (ex_tups e3) (ex_frz e3) k2))
      exact fin _ i4 ((To.ex x e3).trans t4)
    · refine fin H3 ?_ (To.ex x e3)
      have hdel : ddel h.taken o = h.taken := by
        rcases drep_val o k2 with ⟨z1, _⟩ | ⟨p, v, _, z2, _⟩
        · unfold ddel
          refine List.filter_eq_self.mpr fun y hy => decide_eq_true fun z => ?_
          have : dget h.taken o = none := z1
          unfold dget at this
          have := List.find?_eq_none.mp (Option.map_eq_none_iff.mp this) y hy
          exact this (decide_eq_true z)
        · rw [z2] at hn; cases hn
      have i4 := i2.ex e3
      show HAt K H3 x { h with promises := dput h.promises o la, taken := ddel h.taken o }
      rw [hdel]
      exact i4
  · refine Evl.q_when (b := decide (e ≠ h.promised) || decide (h.sought ≠ some e)) (Evl.et_or (et_to (et_t (evd_op (evd_var (i := 2) (dp_ex e1 d2) (by rfl)) (evd_promised T.cls (i.ex e1) T.a_own_promised (by rfl)) (rd_neI (a := (e : Int)) (b := (h.promised : Int))))) (by rw [dec_nat]; by_cases z : e = h.promised <;> simp [z])) fun _ =>
      Evl.et_is (Evl.et_test (Evl.ev_op (z := .bl (!decide (optI h.sought = .int (e : Int)))) (ev_f T.cls T.a_sought (i.ex e1) l_sought (by rfl)) (ev_var (i := 2) (by rfl)) fun H1 _ Q k => ⟨scal_opti _ _, k H1 (Evl.Ex.refl _)⟩)) (opti_ne _ _)) (fun c2 H2 e2 => ?_) fun c2 H2 e2 => ?_
    · have c2 : e ≠ h.promised ∨ h.sought ≠ some e := by
        rcases Bool.or_eq_true_iff.mp c2 with z | z
        · exact .inl (of_decide_eq_true z)
        · exact .inr (of_decide_eq_true z)
      exact ret_ls (To.ex x (e1.trans e2)) (i.ex (e1.trans e2)) evn_none (by show h.onPromise o e la = _; unfold House.onPromise; rw [if_neg (by rw [c]; exact Bool.false_ne_true), if_pos c2]) q
    · have c2 : ¬ (e ≠ h.promised ∨ h.sought ≠ some e) := by
        rintro (z | z)
        · rw [decide_eq_true z] at c2; cases c2
        · rw [decide_eq_true z, Bool.or_true] at c2; cases c2
      have E2 := e1.trans e2
      refine q_putProm T.cls T.a_promises (j := 1) (k := 3) (n := o) (p := la) (i.ex E2) (by show h.promises.length ≤ 100; omega) (by rfl) (by rfl) (by rfl) (dp_ex E2 d3) fun H3 i3 t3 => ?_
      let g : House := { h with promises := dput h.promises o la }
      have i3 : HAt K H3 x g := i3
      have T3 := (To.ex x E2).trans t3
      have wg : WH g := ⟨wh.row, wh.ent, wh.fresh, by have := dput_len h.promises o la; show (dput h.promises o la).length ≤ 100; omega, wh.tak, wh.mem⟩
      have hr0 : h.onPromise o e la = if most h.mem.length ≤ g.promises.length then g.lead else (g, []) := by
        unfold House.onPromise
        rw [if_neg (by rw [c]; exact Bool.false_ne_true), if_neg c2]
      obtain ⟨kv, k1, k2⟩ := i3.r.prom
      have hl := drep_len k2
      have elen : EvD K (tCB (fun xs H Q => ∃ a kvs, xs = [V.ref a] ∧ H a = some (.dK kvs) ∧ Q (.int kvs.length) H) (tCons (tFld K (tVar 0) "promises") tNil)) (start ["self", "other", "epoch", "last"] [.ref x.p, .str (nS o), .int (e : Int), v3]) H3 (.int (g.promises.length : Int)) := fun H4 e4 Q k =>
        ev_promises T.cls i3 T.a_promises (by rfl) H4 e4 _ fun H5 e5 => ⟨x.prom, kv, rfl, e5 _ _ (e4 _ _ k1), by rw [hl]; exact k _ H5 e5 (.int _)⟩
      refine c_ret (c_if (b := decide (most h.mem.length ≤ g.promises.length)) (et_to (et_t (evd_op elen (evd_F h.mem trivial (eds_one (evd_members (h := g) T.cls i3 T.a_own_members (by rfl)))) (rd_I0 (z := .bool (decide ((most h.mem.length : Int) ≤ (g.promises.length : Int)))) fun H => .bl _))) (dec_le _ _)) (fun c3 H4 e4 => ?_) fun c3 H4 e4 => ?_)
      · have c3 := of_decide_eq_true c3
        rw [if_pos c3] at hr0
        refine c_M (m := "lead") (f := fun h (_ : Unit) => h.lead) (pre := fun h _ => h.fresh ≤ 10000000) (i3.ex e4) wg () hf.fresh eds_nil (by rfl) (by kernel_rfl) fun p x' H' i' t' hn no l' => ?_
        refine q p x' H' ?_ ((T3.trans (To.ex x e4)).trans t') (T3.back (Evl.fresh_back e4 hn)) no ?_
        · show HAt K H' x' (h.onPromise o e la).1
          rw [hr0]; exact i'
        · show LstAt K H' p ((h.onPromise o e la).2.map dL)
          rw [hr0]; exact l'
      · have c3 := of_decide_eq_false c3
        rw [if_neg c3] at hr0
        exact ret_ls (D := D) (T3.trans (To.ex x e4)) (i3.ex e4) evn_none hr0 q
end
end Wn

set_option Elab.async false
set_option linter.all false
set_option maxRecDepth 100000
set_option maxHeartbeats 4000000
/-! methods (12): on_propose, on_done, on_told. -/
namespace Wn
open PySem PySem.Spec PyProof.Rows L2
open Zab hiding World Place Row
theorem follow_row (h : House) (o : Nat) : (h.follow o).row = h.row := by unfold House.follow; split <;> rfl
theorem follow_wh {h : House} (wh : WH h) (o : Nat) : WH (h.follow o) := by
  unfold House.follow
  split
  · exact ⟨wh.row, wh.ent, wh.fresh, wh.prom, wh.tak, wh.mem⟩
  · exact ⟨wh.row, wh.ent, wh.fresh, Nat.zero_le _, Nat.zero_le _, wh.mem⟩
theorem follow_fresh (h : House) (o : Nat) : (h.follow o).fresh = h.fresh := by unfold House.follow; split <;> rfl
theorem follow_nm (h : House) (o : Nat) : (h.follow o).nm = h.nm := by unfold House.follow; split <;> rfl
theorem follow_epoch (h : House) (o : Nat) : (h.follow o).epoch = h.epoch := by unfold House.follow; split <;> rfl
section
variable {P : Program} {w : World} {K : PySem.W.Frag} {mg : Str → Option Value} {base : Heap}
/-- say(word, other, epoch, (self.last(),)) in a list -/
theorem evn_sayLast {σ : L2.St} {H : Hp} {x : HX} {h : House} {j1 j2 o e : Nat} {E1 E2 : XK} (b : Body) (hb : dB b = [dP h.lst]) (i : HAt K H x h) (wh : WH h) (h0 : σ[0]? = some (some (.ref x.p))) (h1 : σ[j1]? = some (some (.str (nS o)))) (h2 : σ[j2]? = some (some (.int (e : Int)))) :
    EvN K (tLst (tCons (tMeth (CH K) "say" (spSay K) [] E1 (tVar 0) (tCons (tC (.str (wordS b))) (tCons (tVar j1) (tCons (tVar j2) (tCons (tTup (tCons (tMeth (CH K) "last" (spLast1 K) [] E2 (tVar 0) tNil) tNil)) tNil))))) tNil)) σ H (([⟨h.nm, o, e, b⟩] : List Letter).map dL) := by
  refine evn_lst (eds_one (evd_say b i wh ?_ h0)) (by show 1 ≤ 100000; decide)
  rw [hb]
  exact eds_cons evd_str (eds_cons (evd_var (i := j1) (.str _) h1) (eds_cons (evd_var (i := j2) (.int _) h2) (eds_one (evd_tup (eds_one (evd_P (m := "last") (res := fun h (_ : Unit) => dP h.lst) i wh () trivial eds_nil h0 (by kernel_rfl))) (by show 1 ≤ 100000; decide)))))
abbrev spOnPropose (K : PySem.W.Frag) : Sp := spM K (fun a : Nat × Nat × Place × Place × Ent => [dN a.1, dI a.2.1, .list [dP a.2.2.1, dP a.2.2.2.1, dE a.2.2.2.2]]) (fun h a => PreT h ∧ 1 ≤ a.2.2.2.2.2) (fun h a => h.onPropose a.1 a.2.1 a.2.2.1 a.2.2.2.1 a.2.2.2.2)
theorem sc_H_on_propose : FnScope ["self", "other", "epoch", "told", "prior", "place", "entry"] ["self", "other", "epoch", "told"] (defScope m_on_propose) := ⟨rfl, rfl, rfl, by decide +kernel, rfl, by decide +kernel, by decide +kernel⟩
theorem ok_on_propose (T : TX w K mg) : Cal P w K mg base 3 (He.ma K (CH K) "on_propose") ["self", "other", "epoch", "told"] (spOnPropose K) [] := by
  have M_stands_by := ok_stands_by (P := P) (base := base) T
  have M_follow := ok_follow (P := P) (base := base) T
  have M_last := ok_last (P := P) (base := base) T
  have M_has := ok_has (P := P) (base := base) T
  have M_say := (ok_say (P := P) (base := base) T).1
  refine cal_M T 58 (d := e_on_propose) rfl rfl rfl sc_H_on_propose (fun _ => rfl) (fun _ _ _ _ _ _ us hl => match us, hl with | [_, _, _, _], _ => rfl) fun cdv A outer s H vs E x h a hr i wh hpre hv => ?_
  obtain ⟨o, e, p, pl, en⟩ := a
  obtain ⟨v1, v2, v3, rfl, d1, d2, d3⟩ := dpA3 hv
  obtain ⟨hf, hen⟩ := hpre
  have hv2 := dp_int d2
  have hv1 := dp_str d1
  subst hv2 hv1
  have d2 : Dp K H (.int (e : Int)) (dI e) := d2
  obtain ⟨at_, us, rfl, u1, u2⟩ := dp_lst d3
  obtain ⟨y1, y2, y3, rfl, w1, w2, w3⟩ := dpA3 u2
  have hlst : ∀ (r : House × List Letter), h.onPropose o e p pl en = r → h.onPropose o e p pl en = r := fun _ z => z
  refine ⟨_, (pss_cons (ps_asg (pv 3) (pg_unl rfl (pgs_cons (pg_name (i := 4) sc_H_on_propose.nd rfl (by first | exact Or.inl rfl | exact Or.inr rfl)) (pgs_cons (pg_name (i := 5) sc_H_on_propose.nd rfl (by first | exact Or.inl rfl | exact Or.inr rfl)) (pgs_cons (pg_name (i := 6) sc_H_on_propose.nd rfl (by first | exact Or.inl rfl | exact Or.inr rfl)) pgs_nil)))))
    (pss_cons (ps_if (pt_not (pt_val (pe_m T.cls T.m_stands_by M_stands_by (hr.mono (by decide)) (pv 0) (pa_cons (pv 2) pa_nil)))) (pss_one (ps_ret (pe_lst pa_nil))) pss_nil)
    (pss_cons (ps_expr (pe_m T.cls T.m_follow M_follow (hr.mono (by decide)) (pv 0) (pa_cons (pv 1) pa_nil)))
    (pss_cons (ps_if (pt_cmpR (op_eqD (hr.units)) (pe_m0 T.cls T.m_last M_last (hr.mono (by decide)) (pv 0)) (pv 4) (nomark _)) (pss_one (ps_expr (pe_bm PySem.F.plainAttrs_list PySem.F.slot_list_append PySem.F.type_list_append mt_append (pe_fld (pv 0) rfl) (pa_cons (pe_tup (pa_cons (pv 5) (pa_cons (pv 6) pa_nil))) pa_nil)))) pss_nil)
    (pss_one (ps_ret (pe_ifExp (pt_val (pe_m T.cls T.m_has M_has (hr.mono (by decide)) (pv 0) (pa_cons (pv 5) pa_nil))) (pe_lst (pa_cons (pe_m T.cls T.m_say M_say (hr.mono (by decide)) (pv 0) (pa_cons pe_str (pa_cons (pv 1) (pa_cons (pv 2) (pa_cons (pe_tup (pa_cons (pe_m0 T.cls T.m_last M_last (hr.mono (by decide)) (pv 0)) pa_nil)) pa_nil))))) pa_nil)) (pe_lst pa_nil)))))))), fun D q => ?_⟩
  refine c_asg (c_var (i := 3) ⟨at_, _, rfl, u1, rfl, _, _, rfl, _, _, rfl, _, _, rfl, rfl, ?_⟩ (by rfl))
  simp only [L2.start, List.map_cons, List.map_nil, List.length_cons, List.length_nil, List.replicate_succ, List.replicate_zero, List.cons_append, List.nil_append, List.set_cons_zero, List.set_cons_succ, Nat.reduceAdd, Nat.reduceSub]
  refine Evl.q_when (b := !h.standsBy e) (Evl.et_not (et_b (evd_P (m := "stands_by") (res := fun h (e : Nat) => .bool (h.standsBy e)) i wh e trivial (eds_one (evd_var (i := 2) d2 (by rfl))) (by rfl) (by kernel_rfl)))) (fun c H1 e1 => ?_) fun c H1 e1 => ?_
  · have c : ¬ h.standsBy e = true := fun z => by rw [z] at c; cases c
    exact ret_ls (To.ex x e1) (i.ex e1) evn_none (by show h.onPropose o e p pl en = _; unfold House.onPropose; rw [if_neg c]) q
  · have c : h.standsBy e = true := by cases z : h.standsBy e with | true => rfl | false => rw [z] at c; cases c
    refine q_U (m := "follow") (f := fun h (o : Nat) => h.follow o) (i.ex e1) wh o trivial (eds_one (evd_var (i := 1) (.str _) (by rfl))) (by rfl) (by kernel_rfl) fun x1 H2 i2 t2 => ?_
    have T2 := (To.ex x e1).trans t2
    have hx0 : ∀ r : L2.St, (some (V.ref x.p) :: r)[0]? = some (some (V.ref x1.p)) := fun r => by rw [T2.p]; rfl
    have w1 := T2.dp i (imm_dP p) w1
    have w2 := T2.dp i (imm_dP pl) w2
    have w3 := T2.dp i (imm_dE en) w3
    have wf := follow_wh wh o
    have hrow := follow_row h o
    -- the end
    have fin : ∀ (g : House) (H3 : Hp), HAt K H3 x1 g → To x H x1 H3 → Dp K H3 y2 (dP pl) → WH g → g.nm = h.nm → h.onPropose o e p pl en = (g, if hasP g.row pl then [⟨h.nm, o, e, .took g.lst⟩] else []) →
        tRet (tIf (tB (tMeth (CH K) "has" (spHas K) [] E0 (tVar 0) (tCons (tVar 5) tNil))) (tLst (tCons (tMeth (CH K) "say" (spSay K) [] E0 (tVar 0) (tCons (tC (.str (wordS (.took g.lst)))) (tCons (tVar 1) (tCons (tVar 2) (tCons (tTup (tCons (tMeth (CH K) "last" (spLast1 K) [] E0 (tVar 0) tNil) tNil)) tNil))))) tNil)) (tLst tNil)) D [some (.ref x.p), some (.str (nS o)), some (.int (e : Int)), some (.ref at_), some y1, some y2, some y3] H3 := fun g H3 i3 t3 wpl wg hnm hr0 => by
      refine c_ret (c_if (b := hasP g.row pl) (et_b (evd_P (m := "has") (res := fun h (p : Place) => .bool (hasP h.row p)) i3 wg pl trivial (eds_one (evd_var (i := 5) wpl (by rfl))) (hx0 _) (by kernel_rfl))) (fun c3 H4 e4 => ?_) fun c3 H4 e4 => ?_)
      · rw [if_pos c3] at hr0
        have es := evn_sayLast (E1 := E0) (E2 := E0) (j1 := 1) (j2 := 2) (o := o) (e := e) (.took g.lst) rfl (i3.ex e4) wg (hx0 [some (.str (nS o)), some (.int (e : Int)), some (.ref at_), some y1, some y2, some y3]) rfl rfl
        rw [hnm] at es
        exact ret_ls (D := D) (t3.trans (To.ex x1 e4)) (i3.ex e4) es hr0 q
      · rw [if_neg (by rw [c3]; exact Bool.false_ne_true)] at hr0
        exact ret_ls (D := D) (t3.trans (To.ex x1 e4)) (i3.ex e4) evn_none hr0 q
    have hres : h.onPropose o e p pl en = (let h1 := h.follow o; let h2 : House := if h1.lst = p then { h1 with row := h1.row ++ [(pl, en)] } else h1; (h2, if hasP h2.row pl then [⟨h.nm, o, e, .took h2.lst⟩] else [])) := by
      unfold House.onPropose
      rw [if_pos c]
    refine Evl.q_when (b := decide ((h.follow o).lst = p)) (et_to (et_t (evd_op (evd_P (m := "last") (res := fun h (_ : Unit) => dP h.lst) i2 wf () trivial eds_nil (hx0 _) (by kernel_rfl)) (evd_var (i := 4) w1 (by rfl)) (rd_eqD (shp_dP _) (shp_dP _)))) (eqv_dP _ _)) (fun c2 H3 e3 => ?_) fun c2 H3 e3 => ?_
    · have c2 := of_decide_eq_true c2
      have i3 := i2.ex e3
      obtain ⟨ws, r1, r2⟩ := i3.r.row
      have hwl : ws.length = h.row.length := by rw [dpA_len r2, List.length_map, hrow]
      have hrl := hf.row
      refine c_drop1 (c_appD (d := dT (pl, en)) (ev_f T.cls T.a_own_row i3 l_row (hx0 _)) r1 (by omega) (eds_one (evd_tup (ds := [dP pl, dE en]) (eds_cons (evd_var (i := 5) (dp_ex e3 w2) (by rfl)) (eds_one (evd_var (i := 6) (dp_ex e3 w3) (by rfl)))) (by show 2 ≤ 100000; decide))) fun y H4 e4 d4 => ?_)
      have i4 := i3.ex e4
      obtain ⟨i5, t5⟩ := i4.setRow (ws := ws ++ [y]) (r := (h.follow o).row ++ [(pl, en)]) (by rw [List.map_append]; exact dpA_app (dpA_ex e4 r2) (dpA_one d4))
      refine fin _ _ i5 ((T2.trans (To.ex x1 (e3.trans e4))).trans t5) (t5.dp i4 (imm_dP pl) (dp_ex (e3.trans e4) w2)) ⟨by show ((h.follow o).row ++ [(pl, en)]).length ≤ 2000; rw [List.length_append, hrow]; show _ + 1 ≤ _; omega, fun t ht => by
        rcases List.mem_append.mp ht with ht | ht
        · exact wf.ent t ht
        · rw [List.mem_singleton.mp ht]; exact hen, wf.fresh, wf.prom, wf.tak, wf.mem⟩ (follow_nm h o) ?_
      rw [hres]
      simp only [if_pos c2]
    · have c2 := of_decide_eq_false c2
      refine fin _ H3 (i2.ex e3) (T2.trans (To.ex x1 e3)) (dp_ex e3 w2) wf (follow_nm h o) ?_
      rw [hres]
      simp only [if_neg c2]
abbrev spOnDone (K : PySem.W.Frag) : Sp := spM K (fun a : Nat × Nat × Place => [dN a.1, dI a.2.1, dP a.2.2]) (fun h _ => PreT h) (fun h a => h.onDone a.1 a.2.1 a.2.2)
theorem evd_min {σ : L2.St} {H : Hp} {te td : TE} {p q : Place} (h1 : EvD K te σ H (dP p)) (h2 : EvD K td σ H (dP q)) : EvD K (tCB (rMin2P K) (tCons te (tCons td tNil))) σ H (dP (pmin p q)) :=
  evd_cb (eds_cons h1 (eds_one h2)) fun vs H3 e3 hv3 Q kk => by
    obtain ⟨u1, u2, rfl, w1, w2⟩ := dpA2 hv3
    refine ⟨u1, u2, p, q, rfl, w1, w2, kk _ H3 (Evl.Ex.refl _) ?_⟩
    unfold pmin
    split
    · exact w2
    · exact w1
theorem evd_max {σ : L2.St} {H : Hp} {te td : TE} {p q : Place} (h1 : EvD K te σ H (dP p)) (h2 : EvD K td σ H (dP q)) : EvD K (tCB (rMax2P K) (tCons te (tCons td tNil))) σ H (dP (pmax p q)) :=
  evd_cb (eds_cons h1 (eds_one h2)) fun vs H3 e3 hv3 Q kk => by
    obtain ⟨u1, u2, rfl, w1, w2⟩ := dpA2 hv3
    refine ⟨u1, u2, p, q, rfl, w1, w2, kk _ H3 (Evl.Ex.refl _) ?_⟩
    unfold pmax
    split
    · exact w2
    · exact w1
theorem sc_H_on_done : FnScope ["self", "other", "epoch", "place"] ["self", "other", "epoch", "place"] (defScope m_on_done) := ⟨rfl, rfl, rfl, by decide +kernel, rfl, by decide +kernel, by decide +kernel⟩
theorem ok_on_done (T : TX w K mg) : Cal P w K mg base 6 (He.ma K (CH K) "on_done") ["self", "other", "epoch", "place"] (spOnDone K) [] := by
  have M_stands_by := ok_stands_by (P := P) (base := base) T
  have M_follow := ok_follow (P := P) (base := base) T
  have M_last := ok_last (P := P) (base := base) T
  have M_go_on_to := ok_go_on_to (P := P) (base := base) T
  refine cal_M T 59 (d := e_on_done) rfl rfl rfl sc_H_on_done (fun _ => rfl) (fun _ _ _ _ _ _ us hl => match us, hl with | [_, _, _, _], _ => rfl) fun cdv A outer s H vs E x h a hr i wh hf hv => ?_
  obtain ⟨o, e, p⟩ := a
  obtain ⟨v1, v2, v3, rfl, d1, d2, d3⟩ := dpA3 hv
  have hv2 := dp_int d2
  have hv1 := dp_str d1
  subst hv2 hv1
  have d2 : Dp K H (.int (e : Int)) (dI e) := d2
  refine ⟨_, (pss_cons (ps_if (pt_val (pe_m T.cls T.m_stands_by M_stands_by (hr.mono (by decide)) (pv 0) (pa_cons (pv 2) pa_nil))) (pss_cons (ps_expr (pe_m T.cls T.m_follow M_follow (hr.mono (by decide)) (pv 0) (pa_cons (pv 1) pa_nil)))
    (pss_one (ps_expr (pe_m T.cls T.m_go_on_to M_go_on_to (hr.mono (by decide)) (pv 0) (pa_cons (pe_callB (call_min2P rfl (hr.units)) (by rfl) T.b_min bt_min (pa_cons (pv 3) (pa_cons (pe_m0 T.cls T.m_last M_last (hr.mono (by decide)) (pv 0)) pa_nil))) pa_nil))))) pss_nil)
    (pss_one (ps_ret (pe_lst pa_nil)))), fun D q => ?_⟩
  refine Evl.q_when (b := h.standsBy e) (et_b (evd_P (m := "stands_by") (res := fun h (e : Nat) => .bool (h.standsBy e)) i wh e trivial (eds_one (evd_var (i := 2) d2 (by rfl))) (by rfl) (by kernel_rfl))) (fun c H1 e1 => ?_) fun c H1 e1 => ?_
  · refine q_U (m := "follow") (f := fun h (o : Nat) => h.follow o) (i.ex e1) wh o trivial (eds_one (evd_var (i := 1) (.str _) (by rfl))) (by rfl) (by kernel_rfl) fun x1 H2 i2 t2 => ?_
    have T2 := (To.ex x e1).trans t2
    have hx0 : ∀ r : L2.St, (some (V.ref x.p) :: r)[0]? = some (some (V.ref x1.p)) := fun r => by rw [T2.p]; rfl
    have d3 := T2.dp i (imm_dP p) d3
    have wf := follow_wh wh o
    refine c_drop1 (c_U (m := "go_on_to") (f := fun h p => h.goOnTo p) i2 wf (pmin p (h.follow o).lst) (by show (h.follow o).fresh ≤ _; rw [follow_fresh]; exact hf.fresh) (eds_one (evd_min (evd_var (i := 3) d3 (by rfl)) (evd_P (m := "last") (res := fun h (_ : Unit) => dP h.lst) i2 wf () trivial eds_nil (hx0 _) (by kernel_rfl)))) (hx0 _) (by kernel_rfl) fun x2 H3 i3 t3 => ?_)
    dsimp only
    exact ret_ls (T2.trans t3) i3 evn_none (by show h.onDone o e p = _; unfold House.onDone; rw [if_pos c]) q
  · exact ret_ls (To.ex x e1) (i.ex e1) evn_none (by show h.onDone o e p = _; unfold House.onDone; rw [if_neg (by rw [c]; exact Bool.false_ne_true)]) q
end
end Wn

set_option Elab.async false
set_option linter.all false
set_option maxRecDepth 100000
set_option maxHeartbeats 4000000
/-! methods (13): on_told, on_sync. -/
namespace Wn
open PySem PySem.Spec PyProof.Rows L2
open Zab hiding World Place Row
section
variable {P : Program} {w : World} {K : PySem.W.Frag} {mg : Str → Option Value} {base : Heap}
def Told (l : Letter) : Prop := match l.body with
  | .lack => True
  | .synced _ => True
  | .took _ => True
  | _ => False
abbrev spOnTold (K : PySem.W.Frag) : Sp := spM K (fun l : Letter => [.str (wordS l.body), dN l.src, dI l.e, .list (dB l.body)]) (fun h l => PreT h ∧ Told l) (fun h l => h.take l)
theorem sc_H_on_told : FnScope ["self", "word", "other", "epoch", "rest"] ["self", "word", "other", "epoch", "rest"] (defScope m_on_told) := ⟨rfl, rfl, rfl, by decide +kernel, rfl, by decide +kernel, by decide +kernel⟩
theorem ok_on_told (T : TX w K mg) : Cal P w K mg base 7 (He.ma K (CH K) "on_told") ["self", "word", "other", "epoch", "rest"] (spOnTold K) [] := by
  have M_leads := ok_leads (P := P) (base := base) T
  have M_sync_by := ok_sync_by (P := P) (base := base) T
  have M_look_done := ok_look_done (P := P) (base := base) T
  refine cal_M T 53 (d := e_on_told) rfl rfl rfl sc_H_on_told (fun _ => rfl) (fun _ _ _ _ _ _ us hl => match us, hl with | [_, _, _, _, _], _ => rfl) fun cdv A outer s H vs E x h l hr i wh hpre hv => ?_
  obtain ⟨hf, hl⟩ := hpre
  obtain ⟨v1, v2, v3, v4, rfl, d1, d2, d3, d4⟩ := dpA4 hv
  have hv1 := dp_str d1
  have hv2 := dp_str d2
  have hv3 := dp_int d3
  subst hv1 hv2 hv3
  refine ⟨_, (pss_cons (ps_if (pt_not (pt_val (pe_m T.cls T.m_leads M_leads (hr.mono (by decide)) (pv 0) (pa_cons (pv 3) pa_nil)))) (pss_one (ps_ret (pe_lst pa_nil))) pss_nil)
    (pss_cons (ps_if (pt_cmpR op_eq (pv 1) pe_str (nomark _)) (pss_one (ps_ret (pe_lst (pa_cons (pe_m T.cls T.m_sync_by M_sync_by (hr.mono (by decide)) (pv 0) (pa_cons (pv 2) (pa_cons pe_str (pa_cons (pe_gR (by rfl) T.g_NOWHERE) pa_nil)))) pa_nil)))) pss_nil)
    (pss_cons (ps_if (PW.pt (pw_or (pt_cmpR op_eq (pv 1) pe_str (nomark _)) (pw_or1 (PW.pt (pw_and (pt_cmpR op_eq (pv 1) pe_str (nomark _)) (pw_and1 (pt_cmp (pc_din (u1 hr) (pv 2) (pe_fld (pv 0) rfl))))))))) (pss_cons (ps_dput (u1 hr) (pe_fld (pv 0) rfl) (pv 2) (pe_callB (call_max2P rfl (hr.units)) (by rfl) T.b_max bt_max (pa_cons (pe_dget2 (u1 hr) (pe_fld (pv 0) rfl) (pv 2) (pe_gR (by rfl) T.g_NOWHERE) ⟨rfl, rfl, rfl, rfl⟩) (pa_cons (pe_ix ix_list (pv 4) pe_int (fun _ _ => rfl)) pa_nil))) rfl)
    (pss_one (ps_ret (pe_m0 T.cls T.m_look_done M_look_done (hr.mono (by decide)) (pv 0))))) pss_nil)
    (pss_cons (ps_if (pt_cmpR op_eq (pv 1) pe_str (nomark _)) pss_never pss_nil)
    (pss_cons (ps_if (pt_cmpR op_eq (pv 1) pe_str (nomark _)) pss_never pss_nil)
    (pss_one (ps_ret (pe_lst pa_nil)))))))), fun D q => ?_⟩
  have hT : ∀ _ : Nat, ¬ h.leadsBy l.e = true → h.take l = (h, []) := fun _ c => by
    obtain ⟨src, dst, e, body⟩ := l
    cases body with
    | lack => exact if_neg c
    | synced p => exact if_neg c
    | took p =>
      have c2 : h.leadsBy e = false := by cases z : h.leadsBy e with | false => rfl | true => exact absurd z c
      show (if (h.leadsBy e && dhas h.taken src) = true then _ else _) = _
      rw [c2]
      rfl
    | _ => exact hl.elim
  refine Evl.q_when (b := !h.leadsBy l.e) (Evl.et_not (et_b (evd_P (m := "leads") (res := fun h (e : Nat) => .bool (h.leadsBy e)) i wh l.e trivial (eds_one (evd_var (i := 3) d3 (by rfl))) (by rfl) (by kernel_rfl)))) (fun c H1 e1 => ?_) fun c H1 e1 => ?_
  · have c : ¬ h.leadsBy l.e = true := fun z => by rw [z] at c; cases c
    exact ret_ls (To.ex x e1) (i.ex e1) evn_none (hT 0 c) q
  · have c : h.leadsBy l.e = true := by cases z : h.leadsBy l.e with | true => rfl | false => rw [z] at c; cases c
    have i1 := i.ex e1
    -- the tail for synced and took
    have tail : ∀ (H2 : Hp) (p : Place), Ex H H2 → dB l.body = [dP p] → h.take l = h.onTook l.src p →
        tSeq (sDPut (tFld K (tVar 0) "taken") (tVar 2) (tCB (rMax2P K) (tCons (tDGet2 (tFld K (tVar 0) "taken") (tVar 2) (tC (.ref (He.ga K "NOWHERE")))) (tCons (tOp (rIxL K) (tVar 4) (tC (.int 0))) tNil)))) (tRet (tMeth (CH K) "look_done" (spLookDone K) [] E0 (tVar 0) tNil)) D (start ["self", "word", "other", "epoch", "rest"] [.ref x.p, .str (wordS l.body), .str (nS l.src), .int (l.e : Int), v4]) H2 := fun H2 p e2 hb ht => by
      have i2 := i.ex e2
      have d4 := dp_ex e2 d4
      rw [hb] at d4
      obtain ⟨kv, k1, k2⟩ := i2.r.tak
      have hkl := drep_len k2
      have htk := hf.tak
      have hget : EvD K (tDGet2 (tFld K (tVar 0) "taken") (tVar 2) (tC (.ref (He.ga K "NOWHERE")))) (start ["self", "word", "other", "epoch", "rest"] [.ref x.p, .str (wordS l.body), .str (nS l.src), .int (l.e : Int), v4]) H2 (dP ((dget h.taken l.src).getD (0, 0))) := fun H3 e3 Q kq =>
        ev_taken T.cls i2 T.a_taken (by rfl) H3 e3 _ fun H4 e4 => ⟨x.tak, rfl, .inl ⟨kv, .inl ((e3.trans e4) _ _ k1)⟩, c_var (i := 2) (c_c ⟨_, DGet.k (k := Sum.inr (nS l.src)) ((e3.trans e4) _ _ k1), by
          rcases drep_val l.src k2 with ⟨z1, z2⟩ | ⟨p', v, z1, z2, z3⟩
          · rw [z2]; exact kq _ H4 e4 (by rw [z1]; exact T.nowhere _)
          · rw [z2]; exact kq _ H4 e4 (by rw [z1]; exact dp_ex (e3.trans e4) z3)⟩) (by rfl)⟩
      refine c_dput (evd_max hget (evd_op (evd_var (i := 4) d4 (by rfl)) evd_int (rd_ixL (d := dP p) rfl)) H2 (Evl.Ex.refl _) _ fun vm H5 e5 d5 => ev_taken T.cls i2 T.a_taken (by rfl) H5 e5 _ fun H6 e6 => c_var (i := 2) ?_ (by rfl))
      have i6 := i2.ex (e5.trans e6)
      have E6 := e5.trans e6
      obtain ⟨i7, t7⟩ := i6.setTak (kvs := putK kv (Sum.inr (nS l.src)) vm) (d := dput h.taken l.src (pmax ((dget h.taken l.src).getD (0, 0)) p)) (drep_put l.src (dp_ex e6 d5) (drep_keep (ex_tups E6) (ex_frz E6) k2))
      refine ⟨x.tak, _, rfl, DPut.k (k := Sum.inr (nS l.src)) (E6 _ _ k1) (Evl.sz_lt (by omega)), ?_⟩
      have dl := dput_len h.taken l.src (pmax ((dget h.taken l.src).getD (0, 0)) p)
      refine c_ret (c_M (m := "look_done") (f := fun h (_ : Unit) => h.lookDone) (pre := fun h _ => h.fresh ≤ 10000000) i7 ⟨wh.row, wh.ent, wh.fresh, wh.prom, by show (dput _ _ _).length ≤ 100; omega, wh.mem⟩ () hf.fresh eds_nil (by rfl) (by kernel_rfl) fun p' x' H' i' t' hn no l' => ?_)
      have TT := (To.ex x (e2.trans E6)).trans t7
      refine q p' x' H' ?_ (TT.trans t') (TT.back hn) no ?_
      · show HAt K H' x' (h.take l).1
        rw [ht]; exact i'
      · show LstAt K H' p' ((h.take l).2.map dL)
        rw [ht]; exact l'
    obtain ⟨src, dst, e, body⟩ := l
    cases body with
    | lack =>
      refine q_ifT (et_t (evd_op (evd_var (i := 1) (dp_ex e1 d1) (by rfl)) evd_str (rd_eqS (a := "lack") (b := "lack")))) fun H2 e2 => ?_
      have i2 := i1.ex e2
      refine ret_ls (ls := [h.syncBy src 2 (0, 0)]) (To.ex x (e1.trans e2)) i2 ?_ (if_pos c) q
      exact evn_lst (eds_one (evd_P (m := "sync_by") (res := fun h (a : Nat × Nat × Place) => dL (h.syncBy a.1 a.2.1 a.2.2)) i2 wh (src, 2, (0, 0)) trivial (eds_cons (evd_var (i := 2) (dp_ex (e1.trans e2) d2) (by rfl)) (eds_cons evd_str (eds_one (evd_c (T.nowhere _))))) (by rfl) (by kernel_rfl))) (by show 1 ≤ 100000; decide)
    | synced p =>
      refine q_ifF (et_t (evd_op (evd_var (i := 1) (dp_ex e1 d1) (by rfl)) evd_str (rd_eqS (a := "synced") (b := "lack")))) fun H2 e2 => ?_
      refine q_ifT (Evl.et_or (a := true) (b := true) (et_t (evd_op (evd_var (i := 1) (dp_ex (e1.trans e2) d1) (by rfl)) evd_str (rd_eqS (a := "synced") (b := "synced")))) fun z => by cases z) fun H3 e3 => ?_
      exact tail H3 p ((e1.trans e2).trans e3) rfl (if_pos c)
    | took p =>
      refine q_ifF (et_t (evd_op (evd_var (i := 1) (dp_ex e1 d1) (by rfl)) evd_str (rd_eqS (a := "took") (b := "lack")))) fun H2 e2 => ?_
      have E2 := e1.trans e2
      obtain ⟨kv, k1, k2⟩ := i.r.tak
      refine Evl.q_when (b := dhas h.taken src) (Evl.et_is (Evl.et_or (a := false) (b := true && dhas h.taken src) (et_t (evd_op (evd_var (i := 1) (dp_ex E2 d1) (by rfl)) evd_str (rd_eqS (a := "took") (b := "synced")))) fun _ => Evl.et_and (et_t (evd_op (evd_var (i := 1) (dp_ex E2 d1) (by rfl)) evd_str (rd_eqS (a := "took") (b := "took")))) fun _ => et_b (evd_din (evd_var (i := 2) (dp_ex E2 d2) (by rfl)) (ev_taken T.cls (i.ex E2) T.a_taken (by rfl)) (E2 _ _ k1) (drep_keep (ex_tups E2) (ex_frz E2) k2))) (by simp)) (fun c2 H3 e3 => ?_) fun c2 H3 e3 => ?_
      · refine tail H3 p (E2.trans e3) rfl ?_
        show (if (h.leadsBy e && dhas h.taken src) = true then _ else _) = _
        have c : h.leadsBy e = true := c
        rw [c, c2]
        rfl
      · have E3 := E2.trans e3
        refine q_ifF (et_t (evd_op (evd_var (i := 1) (dp_ex E3 d1) (by rfl)) evd_str (rd_eqS (a := "took") (b := "forward")))) fun H4 e4 => ?_
        refine q_ifF (et_t (evd_op (evd_var (i := 1) (dp_ex (E3.trans e4) d1) (by rfl)) evd_str (rd_eqS (a := "took") (b := "touch")))) fun H5 e5 => ?_
        have E5 := (E3.trans e4).trans e5
        refine ret_ls (To.ex x E5) (i.ex E5) evn_none ?_ q
        show (if (h.leadsBy e && dhas h.taken src) = true then _ else _) = _
        rw [c2, Bool.and_false]
        rfl
    | _ => exact hl.elim
end
end Wn

set_option Elab.async false
set_option linter.all false
set_option maxRecDepth 100000
set_option maxHeartbeats 4000000
/-! methods (14): on_sync. -/
namespace Wn
open PySem PySem.Spec PyProof.Rows L2
open Zab hiding World Place Row
section
variable {P : Program} {w : World} {K : PySem.W.Frag} {mg : Str → Option Value} {base : Heap}
theorem q_if {b : Bool} {t : TT} {tu tw tz : TS} {D : Ends} {σ : L2.St} {H : Hp} (h : Evl.EvT t σ H b) (h1 : b = true → ∀ H1, Ex H H1 → tu { D with nx := tz D } σ H1) (h2 : b = false → ∀ H1, Ex H H1 → tw { D with nx := tz D } σ H1) : tSeq (tIfS t tu tw) tz D σ H := Evl.s_if h h1 h2
abbrev SyA := Nat × Nat × Nat × Place × Row × Place
abbrev spOnSync (K : PySem.W.Frag) : Sp := spM K (fun a : SyA => [dN a.1, dI a.2.1, .list [.str (wayS a.2.2.1), dP a.2.2.2.1, dTs a.2.2.2.2.1, dP a.2.2.2.2.2]]) (fun h a => PreT h ∧ a.2.2.2.2.1.length ≤ 1000 ∧ ∀ t ∈ a.2.2.2.2.1, 1 ≤ t.2.2) (fun h a => h.onSync a.1 a.2.1 a.2.2.2.1 a.2.2.2.2.1 a.2.2.2.2.2)
theorem sc_H_on_sync : FnScope ["self", "other", "epoch", "told", "way", "base", "things", "place", "elder"] ["self", "other", "epoch", "told"] (defScope m_on_sync) := ⟨rfl, rfl, rfl, by decide +kernel, rfl, by decide +kernel, by decide +kernel⟩
theorem ok_on_sync (T : TX w K mg) : Cal P w K mg base 6 (He.ma K (CH K) "on_sync") ["self", "other", "epoch", "told"] (spOnSync K) [] := by
  have M_stands_by := ok_stands_by (P := P) (base := base) T
  have M_follow := ok_follow (P := P) (base := base) T
  have M_last := ok_last (P := P) (base := base) T
  have M_has := ok_has (P := P) (base := base) T
  have M_done_row := ok_done_row (P := P) (base := base) T
  have M_go_on_to := ok_go_on_to (P := P) (base := base) T
  have C_up_to := ok_up_to (P := P) (base := base) T
  have C_state_of := ok_state_of (P := P) (base := base) T
  have M_say := (ok_say (P := P) (base := base) T).1
  have M_say3 := (ok_say (P := P) (base := base) T).2
  refine cal_M T 57 (d := e_on_sync) rfl rfl rfl sc_H_on_sync (fun _ => rfl) (fun _ _ _ _ _ _ us hl => match us, hl with | [_, _, _, _], _ => rfl) fun cdv A outer s H vs E x h a hr i wh hpre hv => ?_
  obtain ⟨o, e, wy, b, th, dn⟩ := a
  obtain ⟨v1, v2, v3, rfl, d1, d2, d3⟩ := dpA3 hv
  obtain ⟨hf, hth, hst⟩ := hpre
  have hth : th.length ≤ 1000 := hth
  have hst : ∀ t ∈ th, 1 ≤ t.2.2 := hst
  have hv2 := dp_int d2
  have hv1 := dp_str d1
  subst hv2 hv1
  have d2 : Dp K H (.int (e : Int)) (dI e) := d2
  obtain ⟨at_, us, rfl, u1, u2⟩ := dp_lst d3
  obtain ⟨y1, y2, y3, y4, rfl, w1, w2, w3, w4⟩ := dpA4 u2
  have w2 : Dp K H y2 (dP b) := w2
  have w3 : Dp K H y3 (.tuple (th.map dT)) := w3
  have w4 : Dp K H y4 (dP dn) := w4
  refine ⟨_, (pss_cons (ps_asg (pv 3) (pg_unl rfl (pgs_cons (pg_name (i := 4) sc_H_on_sync.nd rfl (by first | exact Or.inl rfl | exact Or.inr rfl)) (pgs_cons (pg_name (i := 5) sc_H_on_sync.nd rfl (by first | exact Or.inl rfl | exact Or.inr rfl)) (pgs_cons (pg_name (i := 6) sc_H_on_sync.nd rfl (by first | exact Or.inl rfl | exact Or.inr rfl)) (pgs_cons (pg_name (i := 7) sc_H_on_sync.nd rfl (by first | exact Or.inl rfl | exact Or.inr rfl)) pgs_nil))))))
    (pss_cons (ps_if (PW.pt (pw_and (pt_cmpR op_eq (pv 2) (pe_fld (pv 0) rfl) (nomark _)) (pw_and1 (pt_cmpR op_lt (pe_fld (pv 0) rfl) (pv 2) (nomark _))))) (pss_cons (ps_if (pt_not (pt_val (pe_m T.cls T.m_has M_has (hr.mono (by decide)) (pv 0) (pa_cons (pv 5) pa_nil)))) (pss_one (ps_ret (pe_lst (pa_cons (pe_m T.cls T.m_say M_say3 (hr.mono (by decide)) (pv 0) (pa_cons pe_str (pa_cons (pv 1) (pa_cons (pv 2) pa_nil)))) pa_nil)))) pss_nil)
    (pss_cons (ps_asg (pe_m0 T.cls T.m_done_row M_done_row (hr.mono (by decide)) (pv 0)) (pg_name (i := 8) sc_H_on_sync.nd rfl (by first | exact Or.inl rfl | exact Or.inr rfl)))
    (pss_cons (ps_fld (pv 0) (pe_op op_cat (pe_k C_up_to (hr.mono (by decide)) (by rfl) T.g_up_to (pa_cons (pe_fld (pv 0) rfl) (pa_cons (pv 5) pa_nil))) (pe_callTy call_list_of (by rfl) T.b_list bt_list (pa_cons (pv 6) pa_nil))) rfl)
    (pss_cons (ps_if (pt_cmpR (op_neD (hr.units)) (pe_m0 T.cls T.m_done_row M_done_row (hr.mono (by decide)) (pv 0)) (pv 8) (nomark _)) (pss_one (ps_fld (pv 0) (pe_k C_state_of (hr.mono (by decide)) (by rfl) T.g_state_of (pa_cons (pe_m0 T.cls T.m_done_row M_done_row (hr.mono (by decide)) (pv 0)) pa_nil)) rfl)) pss_nil)
    (pss_cons (ps_fld (pv 0) (pv 2) rfl)
    (pss_cons (ps_expr (pe_m T.cls T.m_follow M_follow (hr.mono (by decide)) (pv 0) (pa_cons (pv 1) pa_nil)))
    (pss_one (ps_expr (pe_m T.cls T.m_go_on_to M_go_on_to (hr.mono (by decide)) (pv 0) (pa_cons (pe_callB (call_min2P rfl (hr.units)) (by rfl) T.b_min bt_min (pa_cons (pv 7) (pa_cons (pe_m0 T.cls T.m_last M_last (hr.mono (by decide)) (pv 0)) pa_nil))) pa_nil)))))))))) (pss_one (ps_if (pt_val (pe_m T.cls T.m_stands_by M_stands_by (hr.mono (by decide)) (pv 0) (pa_cons (pv 2) pa_nil))) (pss_one (ps_expr (pe_m T.cls T.m_follow M_follow (hr.mono (by decide)) (pv 0) (pa_cons (pv 1) pa_nil)))) (pss_one (ps_ret (pe_lst pa_nil))))))
    (pss_one (ps_ret (pe_lst (pa_cons (pe_m T.cls T.m_say M_say (hr.mono (by decide)) (pv 0) (pa_cons pe_str (pa_cons (pv 1) (pa_cons (pv 2) (pa_cons (pe_tup (pa_cons (pe_m0 T.cls T.m_last M_last (hr.mono (by decide)) (pv 0)) pa_nil)) pa_nil))))) pa_nil)))))), fun D q => ?_⟩
  refine c_asg (c_var (i := 3) ⟨at_, _, rfl, u1, rfl, _, _, rfl, _, _, rfl, _, _, rfl, _, _, rfl, rfl, ?_⟩ (by rfl))
  simp only [L2.start, List.map_cons, List.map_nil, List.length_cons, List.length_nil, List.replicate_succ, List.replicate_zero, List.cons_append, List.nil_append, List.set_cons_zero, List.set_cons_succ, Nat.reduceAdd, Nat.reduceSub]
  have fin : ∀ (g : House) (x1 : HX) (H3 : Hp) (z : Option V), HAt K H3 x1 g → To x H x1 H3 → WH g → g.nm = h.nm → h.onSync o e b th dn = (g, [⟨h.nm, o, e, .synced g.lst⟩]) →
      tRet (tLst (tCons (tMeth (CH K) "say" (spSay K) [] E0 (tVar 0) (tCons (tC (.str (wordS (.synced g.lst)))) (tCons (tVar 1) (tCons (tVar 2) (tCons (tTup (tCons (tMeth (CH K) "last" (spLast1 K) [] E0 (tVar 0) tNil) tNil)) tNil))))) tNil)) D [some (.ref x.p), some (.str (nS o)), some (.int (e : Int)), some (.ref at_), some y1, some y2, some y3, some y4, z] H3 := fun g x1 H3 z i3 t3 wg hnm hr0 => by
    have hx0 : ∀ r : L2.St, (some (V.ref x.p) :: r)[0]? = some (some (V.ref x1.p)) := fun r => by rw [t3.p]; rfl
    have es := evn_sayLast (E1 := E0) (E2 := E0) (j1 := 1) (j2 := 2) (o := o) (e := e) (.synced g.lst) rfl i3 wg (hx0 [some (.str (nS o)), some (.int (e : Int)), some (.ref at_), some y1, some y2, some y3, some y4, z]) rfl rfl
    rw [hnm] at es
    exact ret_ls (D := D) t3 i3 es hr0 q
  refine q_if (b := decide (e = h.promised) && decide (h.epoch < e)) (Evl.et_and (et_to (et_t (evd_op (evd_var (i := 2) d2 (by rfl)) (evd_promised T.cls i T.a_own_promised (by rfl)) (rd_eqI (a := (e : Int)) (b := (h.promised : Int))))) (dec_nat _ _)) fun _ => et_to (et_t (evd_op (evd_epoch T.cls i T.a_own_epoch (by rfl)) (evd_var (i := 2) d2 (by rfl)) (rd_I0 (z := .bool (decide ((h.epoch : Int) < (e : Int)))) fun H => .bl _))) (dec_lt _ _)) (fun c H1 e1 => ?_) fun c H1 e1 => ?_
  · obtain ⟨c1, c2⟩ := Bool.and_eq_true_iff.mp c
    have cc : e = h.promised ∧ h.epoch < e := ⟨of_decide_eq_true c1, of_decide_eq_true c2⟩
    have i1 := i.ex e1
    refine Evl.q_when (b := !hasP h.row b) (Evl.et_not (et_b (evd_P (m := "has") (res := fun h (p : Place) => .bool (hasP h.row p)) i1 wh b trivial (eds_one (evd_var (i := 5) (dp_ex e1 w2) (by rfl))) (by rfl) (by kernel_rfl)))) (fun c3 H2 e2 => ?_) fun c3 H2 e2 => ?_
    · have c3 : ¬ hasP h.row b = true := fun z => by rw [z] at c3; cases c3
      have i2 := i1.ex e2
      have E2 := e1.trans e2
      refine ret_ls (ls := [⟨h.nm, o, e, .lack⟩]) (To.ex x E2) i2 ?_ (by show h.onSync o e b th dn = _; unfold House.onSync; rw [if_pos cc, if_neg c3]) q
      exact evn_lst (eds_one (evd_say3 T .lack rfl i2 wh (eds_cons evd_str (eds_cons (evd_var (i := 1) (.str _) (by rfl)) (eds_one (evd_var (i := 2) (.int _) (by rfl))))) (by rfl))) (by show 1 ≤ 100000; decide)
    · have c3 : hasP h.row b = true := by cases z : hasP h.row b with | true => rfl | false => rw [z] at c3; cases c3
      have i2 := i1.ex e2
      have E2 := e1.trans e2
      refine q_asgN (evn_P (m := "done_row") (res := fun h (_ : Unit) => h.doneRow.map dT) i2 wh () trivial eds_nil (by rfl) (by kernel_rfl)) fun pe H3 hpe e3 l3 => ?_
      simp only [L2.start, List.map_cons, List.map_nil, List.length_cons, List.length_nil, List.replicate_succ, List.replicate_zero, List.cons_append, List.nil_append, List.set_cons_zero, List.set_cons_succ, Nat.reduceAdd, Nat.reduceSub]
      have i3 := i2.ex e3
      have E3 := E2.trans e3
      have nope : ¬ Own x pe := i2.new hpe
      have hrl := hf.row
      have hul : (upTo h.row b).length ≤ h.row.length := filter_len _ _
      refine q_fldRow (r' := upTo h.row b ++ th) (by rfl) T.cls T.a_own_row i3 (by
        rw [List.map_append]
        exact evn_cat (evn_F (h.row, b) (by show h.row.length < 100000; omega) (eds_cons (evd_row T.cls i3 T.a_own_row (by rfl)) (eds_one (evd_var (i := 5) (dp_ex E3 w2) (by rfl))))) (evn_listOfT (evd_var (i := 6) (dp_ex E3 w3) (by rfl))) (by show ((upTo h.row b).map dT).length + (th.map dT).length ≤ 1000000; rw [List.length_map, List.length_map]; omega)) fun H4 a4 i4 t4 => ?_
      let g : House := { h with row := upTo h.row b ++ th }
      have i4 : HAt K H4 { x with row := a4 } g := i4
      have wg : WH g := ⟨by show (upTo h.row b ++ th).length ≤ 2000; rw [List.length_append]; omega, fun t ht => by
        rcases List.mem_append.mp ht with ht | ht
        · exact wh.ent t (mem_upTo.mp ht).1
        · exact hst t ht, wh.fresh, wh.prom, wh.tak, wh.mem⟩
      have T4 := (To.ex x E3).trans t4
      have l4 := t4.lst i3 l3 nope (imm_map imm_dT _)
      -- what comes behind the state's store
      have after : ∀ (x2 : HX) (H5 : Hp), HAt K H5 x2 g → To x H x2 H5 → tSeq (sFld K (tVar 0) (tVar 2) "own_epoch") (tSeq (tDrop (tMeth (CH K) "follow" (spFollow K) [] E0 (tVar 0) (tCons (tVar 1) tNil))) (tDrop (tMeth (CH K) "go_on_to" (spGoOn K) [] E0 (tVar 0) (tCons (tCB (rMin2P K) (tCons (tVar 7) (tCons (tMeth (CH K) "last" (spLast1 K) [] E0 (tVar 0) tNil) tNil))) tNil))))
          { D with nx := tRet (tLst (tCons (tMeth (CH K) "say" (spSay K) [] E0 (tVar 0) (tCons (tC (.str "synced")) (tCons (tVar 1) (tCons (tVar 2) (tCons (tTup (tCons (tMeth (CH K) "last" (spLast1 K) [] E0 (tVar 0) tNil) tNil)) tNil))))) tNil)) D } [some (.ref x.p), some (.str (nS o)), some (.int (e : Int)), some (.ref at_), some y1, some y2, some y3, some y4, some (.ref pe)] H5 := fun x2 H5 i5 t5 => by
        have hx5 : ∀ r : L2.St, (some (V.ref x.p) :: r)[0]? = some (some (V.ref x2.p)) := fun r => by rw [t5.p]; rfl
        refine q_fldV (h' := { g with epoch := e }) (hx5 _) T.cls T.a_own_epoch i5 (ev_var (i := 2) (by rfl)) p_epoch (i5.r.of) fun H6 i6 t6 => ?_
        let g1 : House := { g with epoch := e }
        have wg1 : WH g1 := ⟨wg.row, wg.ent, wg.fresh, wg.prom, wg.tak, wg.mem⟩
        refine q_U (m := "follow") (f := fun h (o : Nat) => h.follow o) (h := g1) i6 wg1 o trivial (eds_one (evd_var (i := 1) (.str _) (by rfl))) (hx5 _) (by kernel_rfl) fun x3 H7 i7 t7 => ?_
        have T7 := (t5.trans t6).trans t7
        have hx7 : ∀ r : L2.St, (some (V.ref x.p) :: r)[0]? = some (some (V.ref x3.p)) := fun r => by rw [T7.p]; rfl
        have w4 := T7.dp i (imm_dP dn) w4
        have wf := follow_wh wg1 o
        refine c_drop1 (c_U (m := "go_on_to") (f := fun h p => h.goOnTo p) i7 wf (pmin dn (g1.follow o).lst) (by show (g1.follow o).fresh ≤ _; rw [follow_fresh]; exact hf.fresh) (eds_one (evd_min (evd_var (i := 7) w4 (by rfl)) (evd_P (m := "last") (res := fun h (_ : Unit) => dP h.lst) i7 wf () trivial eds_nil (hx7 _) (by kernel_rfl)))) (hx7 _) (by kernel_rfl) fun x4 H8 i8 t8 => ?_)
        dsimp only
        have hfr := goOnTo_fresh (h := g1.follow o) (pmin dn (g1.follow o).lst)
        have hwr := wf.row
        have hff : (g1.follow o).fresh = h.fresh := follow_fresh g1 o
        have hfp := hf.fresh
        refine fin ((g1.follow o).goOnTo (pmin dn (g1.follow o).lst)) x4 H8 _ i8 (T7.trans t8) ⟨wf.row, wf.ent, by omega, wf.prom, wf.tak, wf.mem⟩ (follow_nm g1 o) ?_
        unfold House.onSync
        rw [if_pos cc, if_pos c3]
      refine Evl.q_when (b := !decide (g.doneRow = h.doneRow)) (et_to (et_t (evd_op (evn_P (m := "done_row") (res := fun h (_ : Unit) => h.doneRow.map dT) i4 wg () trivial eds_nil (by rfl) (by kernel_rfl)).d (evd_var (i := 8) l4.dp (by rfl)) (rd_neD (shp_dR g.doneRow) (shp_dR h.doneRow)))) (by
        have := eqv_dR g.doneRow h.doneRow
        unfold dR at this
        rw [this])) (fun c5 H5 e5 => ?_) fun c5 H5 e5 => ?_
      · refine s_fldState (by rfl) T.cls T.a_own_state (i4.ex e5) (by
          exact fun Q k => c_call (evn_P (m := "done_row") (res := fun h (_ : Unit) => h.doneRow.map dT) (i4.ex e5) wg () trivial eds_nil (by rfl) (by kernel_rfl) H5 (Evl.Ex.refl _) _ fun pd H6 hpd e6 l6 => c_nil ⟨_, g.doneRow, rfl, l6.dp, fun t ht => wg.ent t (mem_upTo.mp ht).1, fun a' n' s' H7 e7 S7 => k a' n' s' H7 (e6.trans e7) (S7.back e6)⟩)) fun H6 a6 n6 s6 i6 t6 => ?_
        exact after _ H6 i6 ((T4.trans (To.ex _ e5)).trans t6)
      · exact after _ H5 (i4.ex e5) (T4.trans (To.ex _ e5))
  · have cc : ¬ (e = h.promised ∧ h.epoch < e) := fun ⟨z1, z2⟩ => by
      rw [decide_eq_true z1, decide_eq_true z2] at c
      cases c
    have i1 := i.ex e1
    refine Evl.s_if (b := h.standsBy e) (et_b (evd_P (m := "stands_by") (res := fun h (e : Nat) => .bool (h.standsBy e)) i1 wh e trivial (eds_one (evd_var (i := 2) (dp_ex e1 d2) (by rfl))) (by rfl) (by kernel_rfl))) (fun c2 H2 e2 => ?_) fun c2 H2 e2 => ?_
    · refine c_drop1 (c_U (m := "follow") (f := fun h (o : Nat) => h.follow o) (i1.ex e2) wh o trivial (eds_one (evd_var (i := 1) (.str _) (by rfl))) (by rfl) (by kernel_rfl) fun x3 H3 i3 t3 => ?_)
      dsimp only
      refine fin (h.follow o) x3 H3 _ i3 ((To.ex x (e1.trans e2)).trans t3) (follow_wh wh o) (follow_nm h o) ?_
      unfold House.onSync
      rw [if_neg cc, if_pos c2]
    · exact ret_ls (To.ex x (e1.trans e2)) (i1.ex e2) evn_none (by show h.onSync o e b th dn = _; unfold House.onSync; rw [if_neg cc, if_neg (by rw [c2]; exact Bool.false_ne_true)]) q
end
end Wn

set_option Elab.async false
set_option linter.all false
set_option maxRecDepth 100000
set_option maxHeartbeats 4000000
/-! methods (15): take. -/
namespace Wn
open PySem PySem.Spec PyProof.Rows L2
open Zab hiding World Place Row
section
variable {P : Program} {w : World} {K : PySem.W.Frag} {mg : Str → Option Value} {base : Heap}
structure TakeOk (h : House) (l : Letter) : Prop where
  pre : PreT h
  ok : LOk l
  dst : l.dst = h.nm
  src : l.src ∈ h.mem
  len : match l.body with
    | .sync _ _ things _ => things.length ≤ 1000
    | _ => True
abbrev spTake (K : PySem.W.Frag) : Sp := spM K (fun l : Letter => [dL l]) TakeOk (fun h l => h.take l)
theorem sc_H_take : FnScope ["self", "letter", "word", "other", "own", "epoch", "rest"] ["self", "letter"] (defScope m_take) := ⟨rfl, rfl, rfl, by decide +kernel, rfl, by decide +kernel, by decide +kernel⟩
theorem ok_take (T : TX w K mg) : Cal P w K mg base 9 (He.ma K (CH K) "take") ["self", "letter"] (spTake K) [] := by
  have C_is_letter := ok_is_letter (P := P) (base := base) T
  have M_on_seek := ok_on_seek (P := P) (base := base) T
  have M_on_promise := ok_on_promise (P := P) (base := base) T
  have M_on_lead := ok_on_lead (P := P) (base := base) T
  have M_on_sync := ok_on_sync (P := P) (base := base) T
  have M_on_propose := ok_on_propose (P := P) (base := base) T
  have M_on_done := ok_on_done (P := P) (base := base) T
  have M_on_told := ok_on_told (P := P) (base := base) T
  refine cal_M T 52 (d := e_take) rfl rfl rfl sc_H_take (fun _ => rfl) (fun _ _ _ _ _ _ us hl => match us, hl with | [_, _], _ => rfl) fun cdv A outer s H vs E x h l hr i wh hpre hv => ?_
  obtain ⟨v, rfl, hd⟩ := dpA1 hv
  have hd2 : Dp K H v (.tuple (.str (wordS l.body) :: dN l.src :: dN l.dst :: dI l.e :: dB l.body)) := hd
  refine ⟨_, (pss_cons (ps_if (PW.pt (pw_or (pt_not (pt_val (pe_k C_is_letter (hr.mono (by decide)) (by rfl) T.g_is_letter (pa_cons (pv 1) pa_nil)))) (pw_or (pt_cmpR op_ne (pe_ix ix_tup (pv 1) pe_int (fun _ _ => rfl)) (pe_fld (pv 0) rfl) (nomark _)) (pw_or1 (pt_cmpR op_notIn_seq (pe_ix ix_tup (pv 1) pe_int (fun _ _ => rfl)) (pe_fld (pv 0) rfl) (by rfl)))))) pss_never pss_nil)
    (pss_cons (ps_asg (pv 1) (pg_star rfl (pgs_cons (pg_name (i := 2) sc_H_take.nd rfl (by first | exact Or.inl rfl | exact Or.inr rfl)) (pgs_cons (pg_name (i := 3) sc_H_take.nd rfl (by first | exact Or.inl rfl | exact Or.inr rfl)) (pgs_cons (pg_name (i := 4) sc_H_take.nd rfl (by first | exact Or.inl rfl | exact Or.inr rfl)) (pgs_cons (pg_name (i := 5) sc_H_take.nd rfl (by first | exact Or.inl rfl | exact Or.inr rfl)) (pgs_star (pg_name (i := 6) sc_H_take.nd rfl (by first | exact Or.inl rfl | exact Or.inr rfl)) pgs_nil)))))))
    (pss_cons (ps_if (pt_cmpR op_eq (pv 2) pe_str (nomark _)) (pss_one (ps_ret (pe_m T.cls T.m_on_seek M_on_seek (hr.mono (by decide)) (pv 0) (pa_cons (pv 3) (pa_cons (pv 5) (pa_cons (pe_callTy call_tuple_of (by rfl) T.b_tuple bt_tuple (pa_cons (pv 6) pa_nil)) pa_nil)))))) pss_nil)
    (pss_cons (ps_if (pt_cmpR op_eq (pv 2) pe_str (nomark _)) (pss_one (ps_ret (pe_m T.cls T.m_on_promise M_on_promise (hr.mono (by decide)) (pv 0) (pa_cons (pv 3) (pa_cons (pv 5) (pa_cons (pe_ix ix_list (pv 6) pe_int (fun _ _ => rfl)) pa_nil)))))) pss_nil)
    (pss_cons (ps_if (pt_cmpR op_eq (pv 2) pe_str (nomark _)) (pss_one (ps_ret (pe_m T.cls T.m_on_lead M_on_lead (hr.mono (by decide)) (pv 0) (pa_cons (pv 3) (pa_cons (pv 5) pa_nil))))) pss_nil)
    (pss_cons (ps_if (pt_cmpR op_eq (pv 2) pe_str (nomark _)) (pss_one (ps_ret (pe_m T.cls T.m_on_sync M_on_sync (hr.mono (by decide)) (pv 0) (pa_cons (pv 3) (pa_cons (pv 5) (pa_cons (pv 6) pa_nil)))))) pss_nil)
    (pss_cons (ps_if (pt_cmpR op_eq (pv 2) pe_str (nomark _)) (pss_one (ps_ret (pe_m T.cls T.m_on_propose M_on_propose (hr.mono (by decide)) (pv 0) (pa_cons (pv 3) (pa_cons (pv 5) (pa_cons (pv 6) pa_nil)))))) pss_nil)
    (pss_cons (ps_if (pt_cmpR op_eq (pv 2) pe_str (nomark _)) (pss_one (ps_ret (pe_m T.cls T.m_on_done M_on_done (hr.mono (by decide)) (pv 0) (pa_cons (pv 3) (pa_cons (pv 5) (pa_cons (pe_ix ix_list (pv 6) pe_int (fun _ _ => rfl)) pa_nil)))))) pss_nil)
    (pss_one (ps_ret (pe_m T.cls T.m_on_told M_on_told (hr.mono (by decide)) (pv 0) (pa_cons (pv 2) (pa_cons (pv 3) (pa_cons (pv 5) (pa_cons (pv 6) pa_nil))))))))))))))), fun D q => ?_⟩
  have hmem : EvD K (tFld K (tVar 0) "own_members") (start ["self", "letter", "word", "other", "own", "epoch", "rest"] [.ref x.p, v]) H (.tuple ((h.mem.map nS).map .str)) := (evd_members T.cls i T.a_own_members (by rfl)).to (by rw [List.map_map]; rfl)
  have hcon : (h.mem.map nS).contains (nS l.src) = true := by
    rw [List.contains_iff_mem]
    exact List.mem_map.mpr ⟨l.src, hpre.src, rfl⟩
  refine q_ifF (Evl.et_is (Evl.et_or (a := false) (b := false) (et_n (et_b (evd_F l hpre.ok (eds_one (evd_var (i := 1) hd (by rfl)))))) fun _ => Evl.et_or (a := false) (b := false) (et_to (et_t (evd_op (evd_op (evd_var (i := 1) hd2 (by rfl)) evd_int (rd_ixT (d := dN l.dst) (atI_nat (k := 2) rfl))) (evd_name T.cls i T.a_own_name (by rfl)) (rd_neS (a := nS l.dst) (b := nS h.nm)))) (by rw [hpre.dst, decide_eq_true rfl]; rfl)) fun _ =>
    et_to (et_t (evd_op (evd_op (evd_var (i := 1) hd2 (by rfl)) evd_int (rd_ixT (d := dN l.src) (atI_nat (k := 1) rfl))) hmem (rd_inS (x := nS l.src) (neg := true)))) (by rw [hcon]; rfl)) rfl) fun H1 e1 => ?_
  refine c_asg (c_var (i := 1) (g_letter (dp_ex e1 hd) fun p H2 hp e2 lp => ?_) (by rfl))
  simp only [L2.start, List.map_cons, List.map_nil, List.length_cons, List.length_nil, List.replicate_succ, List.replicate_zero, List.cons_append, List.nil_append, List.set_cons_zero, List.set_cons_succ, Nat.reduceAdd, Nat.reduceSub]
  have E2 := e1.trans e2
  have i2 := i.ex E2
  have hok := hpre.ok.body
  have hlen := hpre.len
  obtain ⟨src, dst, e, body⟩ := l
  have dr := lp.dp
  cases body with
  | seek ep la =>
    have Z0 := Evl.Ex.refl H2
    refine q_ifT (et_t (K := K) (evd_op (evd_var (i := 2) (.str _) (by rfl)) evd_str (rd_eqS (a := "seek") (b := "seek")))) fun G0 z0 => ?_
    have Z := Z0.trans z0
    refine c_ret (c_M (m := "on_seek") (f := fun h (a : Nat × Nat × Nat × Place) => h.onSeek a.1 a.2.1 a.2.2.1 a.2.2.2) (i2.ex Z) wh (src, e, ep, la) hpre.pre (eds_cons (evd_var (i := 3) (.str _) (by rfl)) (eds_cons (evd_var (i := 5) (.int _) (by rfl)) (eds_one (evd_tupOf (evd_var (i := 6) (dp_ex Z dr) (by rfl)))))) (by rfl) (by kernel_rfl) fun p3 x' H' i' t' hn no l' => ?_)
    exact q p3 x' H' i' ((To.ex x (E2.trans Z)).trans t') (Evl.fresh_back (E2.trans Z) hn) no l'
  | promise la =>
    have Z0 := Evl.Ex.refl H2
    refine q_ifF (et_t (K := K) (evd_op (evd_var (i := 2) (.str _) (by rfl)) evd_str (rd_eqS (a := "promise") (b := "seek")))) fun G0 z0 => ?_
    have Z1 := Z0.trans z0
    refine q_ifT (et_t (K := K) (evd_op (evd_var (i := 2) (.str _) (by rfl)) evd_str (rd_eqS (a := "promise") (b := "promise")))) fun G1 z1 => ?_
    have Z := Z1.trans z1
    refine c_ret (c_M (m := "on_promise") (f := fun h (a : Nat × Nat × Place) => h.onPromise a.1 a.2.1 a.2.2) (i2.ex Z) wh (src, e, la) hpre.pre (eds_cons (evd_var (i := 3) (.str _) (by rfl)) (eds_cons (evd_var (i := 5) (.int _) (by rfl)) (eds_one (evd_op (evd_var (i := 6) (dp_ex Z dr) (by rfl)) evd_int (rd_ixL (d := dP la) rfl))))) (by rfl) (by kernel_rfl) fun p3 x' H' i' t' hn no l' => ?_)
    exact q p3 x' H' i' ((To.ex x (E2.trans Z)).trans t') (Evl.fresh_back (E2.trans Z) hn) no l'
  | lead =>
    have Z0 := Evl.Ex.refl H2
    refine q_ifF (et_t (K := K) (evd_op (evd_var (i := 2) (.str _) (by rfl)) evd_str (rd_eqS (a := "lead") (b := "seek")))) fun G0 z0 => ?_
    have Z1 := Z0.trans z0
    refine q_ifF (et_t (K := K) (evd_op (evd_var (i := 2) (.str _) (by rfl)) evd_str (rd_eqS (a := "lead") (b := "promise")))) fun G1 z1 => ?_
    have Z2 := Z1.trans z1
    refine q_ifT (et_t (K := K) (evd_op (evd_var (i := 2) (.str _) (by rfl)) evd_str (rd_eqS (a := "lead") (b := "lead")))) fun G2 z2 => ?_
    have Z := Z2.trans z2
    refine c_ret (c_M (m := "on_lead") (f := fun h (a : Nat × Nat) => h.onLead a.1 a.2) (i2.ex Z) wh (src, e) hpre.pre (eds_cons (evd_var (i := 3) (.str _) (by rfl)) (eds_one (evd_var (i := 5) (.int _) (by rfl)))) (by rfl) (by kernel_rfl) fun p3 x' H' i' t' hn no l' => ?_)
    exact q p3 x' H' i' ((To.ex x (E2.trans Z)).trans t') (Evl.fresh_back (E2.trans Z) hn) no l'
  | sync wy b th dn =>
    have Z0 := Evl.Ex.refl H2
    refine q_ifF (et_t (K := K) (evd_op (evd_var (i := 2) (.str _) (by rfl)) evd_str (rd_eqS (a := "sync") (b := "seek")))) fun G0 z0 => ?_
    have Z1 := Z0.trans z0
    refine q_ifF (et_t (K := K) (evd_op (evd_var (i := 2) (.str _) (by rfl)) evd_str (rd_eqS (a := "sync") (b := "promise")))) fun G1 z1 => ?_
    have Z2 := Z1.trans z1
    refine q_ifF (et_t (K := K) (evd_op (evd_var (i := 2) (.str _) (by rfl)) evd_str (rd_eqS (a := "sync") (b := "lead")))) fun G2 z2 => ?_
    have Z3 := Z2.trans z2
    refine q_ifT (et_t (K := K) (evd_op (evd_var (i := 2) (.str _) (by rfl)) evd_str (rd_eqS (a := "sync") (b := "sync")))) fun G3 z3 => ?_
    have Z := Z3.trans z3
    refine c_ret (c_M (m := "on_sync") (f := fun h (a : SyA) => h.onSync a.1 a.2.1 a.2.2.2.1 a.2.2.2.2.1 a.2.2.2.2.2) (i2.ex Z) wh (src, e, wy, b, th, dn) ⟨hpre.pre, hlen, hok.2.1⟩ (eds_cons (evd_var (i := 3) (.str _) (by rfl)) (eds_cons (evd_var (i := 5) (.int _) (by rfl)) (eds_one (evd_var (i := 6) (dp_ex Z dr) (by rfl))))) (by rfl) (by kernel_rfl) fun p3 x' H' i' t' hn no l' => ?_)
    exact q p3 x' H' i' ((To.ex x (E2.trans Z)).trans t') (Evl.fresh_back (E2.trans Z) hn) no l'
  | propose pr pl en =>
    have Z0 := Evl.Ex.refl H2
    refine q_ifF (et_t (K := K) (evd_op (evd_var (i := 2) (.str _) (by rfl)) evd_str (rd_eqS (a := "propose") (b := "seek")))) fun G0 z0 => ?_
    have Z1 := Z0.trans z0
    refine q_ifF (et_t (K := K) (evd_op (evd_var (i := 2) (.str _) (by rfl)) evd_str (rd_eqS (a := "propose") (b := "promise")))) fun G1 z1 => ?_
    have Z2 := Z1.trans z1
    refine q_ifF (et_t (K := K) (evd_op (evd_var (i := 2) (.str _) (by rfl)) evd_str (rd_eqS (a := "propose") (b := "lead")))) fun G2 z2 => ?_
    have Z3 := Z2.trans z2
    refine q_ifF (et_t (K := K) (evd_op (evd_var (i := 2) (.str _) (by rfl)) evd_str (rd_eqS (a := "propose") (b := "sync")))) fun G3 z3 => ?_
    have Z4 := Z3.trans z3
    refine q_ifT (et_t (K := K) (evd_op (evd_var (i := 2) (.str _) (by rfl)) evd_str (rd_eqS (a := "propose") (b := "propose")))) fun G4 z4 => ?_
    have Z := Z4.trans z4
    refine c_ret (c_M (m := "on_propose") (f := fun h (a : Nat × Nat × Place × Place × Ent) => h.onPropose a.1 a.2.1 a.2.2.1 a.2.2.2.1 a.2.2.2.2) (i2.ex Z) wh (src, e, pr, pl, en) ⟨hpre.pre, hok.2⟩ (eds_cons (evd_var (i := 3) (.str _) (by rfl)) (eds_cons (evd_var (i := 5) (.int _) (by rfl)) (eds_one (evd_var (i := 6) (dp_ex Z dr) (by rfl))))) (by rfl) (by kernel_rfl) fun p3 x' H' i' t' hn no l' => ?_)
    exact q p3 x' H' i' ((To.ex x (E2.trans Z)).trans t') (Evl.fresh_back (E2.trans Z) hn) no l'
  | done pd =>
    have Z0 := Evl.Ex.refl H2
    refine q_ifF (et_t (K := K) (evd_op (evd_var (i := 2) (.str _) (by rfl)) evd_str (rd_eqS (a := "done") (b := "seek")))) fun G0 z0 => ?_
    have Z1 := Z0.trans z0
    refine q_ifF (et_t (K := K) (evd_op (evd_var (i := 2) (.str _) (by rfl)) evd_str (rd_eqS (a := "done") (b := "promise")))) fun G1 z1 => ?_
    have Z2 := Z1.trans z1
    refine q_ifF (et_t (K := K) (evd_op (evd_var (i := 2) (.str _) (by rfl)) evd_str (rd_eqS (a := "done") (b := "lead")))) fun G2 z2 => ?_
    have Z3 := Z2.trans z2
    refine q_ifF (et_t (K := K) (evd_op (evd_var (i := 2) (.str _) (by rfl)) evd_str (rd_eqS (a := "done") (b := "sync")))) fun G3 z3 => ?_
    have Z4 := Z3.trans z3
    refine q_ifF (et_t (K := K) (evd_op (evd_var (i := 2) (.str _) (by rfl)) evd_str (rd_eqS (a := "done") (b := "propose")))) fun G4 z4 => ?_
    have Z5 := Z4.trans z4
    refine q_ifT (et_t (K := K) (evd_op (evd_var (i := 2) (.str _) (by rfl)) evd_str (rd_eqS (a := "done") (b := "done")))) fun G5 z5 => ?_
    have Z := Z5.trans z5
    refine c_ret (c_M (m := "on_done") (f := fun h (a : Nat × Nat × Place) => h.onDone a.1 a.2.1 a.2.2) (i2.ex Z) wh (src, e, pd) hpre.pre (eds_cons (evd_var (i := 3) (.str _) (by rfl)) (eds_cons (evd_var (i := 5) (.int _) (by rfl)) (eds_one (evd_op (evd_var (i := 6) (dp_ex Z dr) (by rfl)) evd_int (rd_ixL (d := dP pd) rfl))))) (by rfl) (by kernel_rfl) fun p3 x' H' i' t' hn no l' => ?_)
    exact q p3 x' H' i' ((To.ex x (E2.trans Z)).trans t') (Evl.fresh_back (E2.trans Z) hn) no l'
  | lack =>
    have Z0 := Evl.Ex.refl H2
    refine q_ifF (et_t (K := K) (evd_op (evd_var (i := 2) (.str _) (by rfl)) evd_str (rd_eqS (a := "lack") (b := "seek")))) fun G0 z0 => ?_
    have Z1 := Z0.trans z0
    refine q_ifF (et_t (K := K) (evd_op (evd_var (i := 2) (.str _) (by rfl)) evd_str (rd_eqS (a := "lack") (b := "promise")))) fun G1 z1 => ?_
    have Z2 := Z1.trans z1
    refine q_ifF (et_t (K := K) (evd_op (evd_var (i := 2) (.str _) (by rfl)) evd_str (rd_eqS (a := "lack") (b := "lead")))) fun G2 z2 => ?_
    have Z3 := Z2.trans z2
    refine q_ifF (et_t (K := K) (evd_op (evd_var (i := 2) (.str _) (by rfl)) evd_str (rd_eqS (a := "lack") (b := "sync")))) fun G3 z3 => ?_
    have Z4 := Z3.trans z3
    refine q_ifF (et_t (K := K) (evd_op (evd_var (i := 2) (.str _) (by rfl)) evd_str (rd_eqS (a := "lack") (b := "propose")))) fun G4 z4 => ?_
    have Z5 := Z4.trans z4
    refine q_ifF (et_t (K := K) (evd_op (evd_var (i := 2) (.str _) (by rfl)) evd_str (rd_eqS (a := "lack") (b := "done")))) fun G5 z5 => ?_
    have Z6 := Z5.trans z5
    have Z := Z6
    refine c_ret (c_M (m := "on_told") (f := fun h (l : Letter) => h.take l) (i2.ex Z) wh (⟨src, dst, e, .lack⟩ : Letter) ⟨hpre.pre, trivial⟩ (eds_cons (evd_var (i := 2) (.str _) (by rfl)) (eds_cons (evd_var (i := 3) (.str _) (by rfl)) (eds_cons (evd_var (i := 5) (.int _) (by rfl)) (eds_one (evd_var (i := 6) (dp_ex Z dr) (by rfl)))))) (by rfl) (by kernel_rfl) fun p3 x' H' i' t' hn no l' => ?_)
    exact q p3 x' H' i' ((To.ex x (E2.trans Z)).trans t') (Evl.fresh_back (E2.trans Z) hn) no l'
  | synced pd =>
    have Z0 := Evl.Ex.refl H2
    refine q_ifF (et_t (K := K) (evd_op (evd_var (i := 2) (.str _) (by rfl)) evd_str (rd_eqS (a := "synced") (b := "seek")))) fun G0 z0 => ?_
    have Z1 := Z0.trans z0
    refine q_ifF (et_t (K := K) (evd_op (evd_var (i := 2) (.str _) (by rfl)) evd_str (rd_eqS (a := "synced") (b := "promise")))) fun G1 z1 => ?_
    have Z2 := Z1.trans z1
    refine q_ifF (et_t (K := K) (evd_op (evd_var (i := 2) (.str _) (by rfl)) evd_str (rd_eqS (a := "synced") (b := "lead")))) fun G2 z2 => ?_
    have Z3 := Z2.trans z2
    refine q_ifF (et_t (K := K) (evd_op (evd_var (i := 2) (.str _) (by rfl)) evd_str (rd_eqS (a := "synced") (b := "sync")))) fun G3 z3 => ?_
    have Z4 := Z3.trans z3
    refine q_ifF (et_t (K := K) (evd_op (evd_var (i := 2) (.str _) (by rfl)) evd_str (rd_eqS (a := "synced") (b := "propose")))) fun G4 z4 => ?_
    have Z5 := Z4.trans z4
    refine q_ifF (et_t (K := K) (evd_op (evd_var (i := 2) (.str _) (by rfl)) evd_str (rd_eqS (a := "synced") (b := "done")))) fun G5 z5 => ?_
    have Z6 := Z5.trans z5
    have Z := Z6
    refine c_ret (c_M (m := "on_told") (f := fun h (l : Letter) => h.take l) (i2.ex Z) wh (⟨src, dst, e, .synced pd⟩ : Letter) ⟨hpre.pre, trivial⟩ (eds_cons (evd_var (i := 2) (.str _) (by rfl)) (eds_cons (evd_var (i := 3) (.str _) (by rfl)) (eds_cons (evd_var (i := 5) (.int _) (by rfl)) (eds_one (evd_var (i := 6) (dp_ex Z dr) (by rfl)))))) (by rfl) (by kernel_rfl) fun p3 x' H' i' t' hn no l' => ?_)
    exact q p3 x' H' i' ((To.ex x (E2.trans Z)).trans t') (Evl.fresh_back (E2.trans Z) hn) no l'
  | took pd =>
    have Z0 := Evl.Ex.refl H2
    refine q_ifF (et_t (K := K) (evd_op (evd_var (i := 2) (.str _) (by rfl)) evd_str (rd_eqS (a := "took") (b := "seek")))) fun G0 z0 => ?_
    have Z1 := Z0.trans z0
    refine q_ifF (et_t (K := K) (evd_op (evd_var (i := 2) (.str _) (by rfl)) evd_str (rd_eqS (a := "took") (b := "promise")))) fun G1 z1 => ?_
    have Z2 := Z1.trans z1
    refine q_ifF (et_t (K := K) (evd_op (evd_var (i := 2) (.str _) (by rfl)) evd_str (rd_eqS (a := "took") (b := "lead")))) fun G2 z2 => ?_
    have Z3 := Z2.trans z2
    refine q_ifF (et_t (K := K) (evd_op (evd_var (i := 2) (.str _) (by rfl)) evd_str (rd_eqS (a := "took") (b := "sync")))) fun G3 z3 => ?_
    have Z4 := Z3.trans z3
    refine q_ifF (et_t (K := K) (evd_op (evd_var (i := 2) (.str _) (by rfl)) evd_str (rd_eqS (a := "took") (b := "propose")))) fun G4 z4 => ?_
    have Z5 := Z4.trans z4
    refine q_ifF (et_t (K := K) (evd_op (evd_var (i := 2) (.str _) (by rfl)) evd_str (rd_eqS (a := "took") (b := "done")))) fun G5 z5 => ?_
    have Z6 := Z5.trans z5
    have Z := Z6
    refine c_ret (c_M (m := "on_told") (f := fun h (l : Letter) => h.take l) (i2.ex Z) wh (⟨src, dst, e, .took pd⟩ : Letter) ⟨hpre.pre, trivial⟩ (eds_cons (evd_var (i := 2) (.str _) (by rfl)) (eds_cons (evd_var (i := 3) (.str _) (by rfl)) (eds_cons (evd_var (i := 5) (.int _) (by rfl)) (eds_one (evd_var (i := 6) (dp_ex Z dr) (by rfl)))))) (by rfl) (by kernel_rfl) fun p3 x' H' i' t' hn no l' => ?_)
    exact q p3 x' H' i' ((To.ex x (E2.trans Z)).trans t') (Evl.fresh_back (E2.trans Z) hn) no l'
end
end Wn

set_option Elab.async false
set_option linter.all false
set_option maxRecDepth 100000
set_option maxHeartbeats 4000000
/-! len(set(t)) of a tuple of texts that differ (turned from HandS.Strs, where one text at most may stand). -/
namespace Wn
open PySem PySem.Spec PyProof.Rows
theorem any_take {xs : List Str} {i : Nat} (k : Str) (hi : i < xs.length) : ((xs.take (i + 1)).any fun z => z == k) = ((xs.take i).any (fun z => z == k) || decide (k = xs.getD i Str.empty)) := by
  have e : xs[i]? = some (xs.getD i Str.empty) := by rw [List.getD_eq_getElem?_getD, List.getElem?_eq_getElem hi]; rfl
  rw [List.take_add_one, e, List.any_append]
  congr 1
  show ((xs.getD i Str.empty == k) || false) = _
  rw [Bool.or_false]
  by_cases c : k = xs.getD i Str.empty
  · rw [decide_eq_true c, ← c]; exact beq_self_eq_true k
  · rw [decide_eq_false c]; exact beq_eq_false_iff_ne.mpr fun z => c z.symm
theorem not_any {xs : List Str} {i : Nat} (nd : xs.Nodup) (hi : i < xs.length) : ((xs.take i).any fun z => z == xs.getD i Str.empty) = false := by
  have e : xs.getD i Str.empty = xs[i] := by rw [List.getD_eq_getElem?_getD, List.getElem?_eq_getElem hi]; rfl
  rw [e]
  cases c : (xs.take i).any fun z => z == xs[i] with
  | false => rfl
  | true =>
    exfalso
    obtain ⟨z, h1, h2⟩ := List.any_eq_true.mp c
    rw [beq_iff_eq.mp h2] at h1
    obtain ⟨j, hj, ej⟩ := List.getElem_of_mem h1
    have hji : j < i := by rw [List.length_take] at hj; omega
    rw [List.getElem_take] at ej
    exact (List.pairwise_iff_getElem.mp nd) j i (by omega) hi hji ej
section
variable {prog : Program} {w : World} {A : Around} {R : Result → Shared → Prop} {I : Addr} {fp wr : List Addr} {G : Array GenState → Array GenState → Prop} {n : Nat} {P : Nat → Value → Prop} {St : Nat → Shared → Prop}
theorem loopN (W : WalksS prog w A.in1 I fp wr G n P St) (S : Addr) (hSf : S ∉ fp) (xs : List Str) (nd : xs.Nodup) (hsz : xs.length = n) (hn1 : n ≤ 60) (hval : ∀ i v, P i v → ∃ t, v = .str (xs.getD i Str.empty) t) :
    ∀ (k i : Nat) (s : Shared), n - i = k → i ≤ n → St i s → s.heap.SetOf (PySem.strKind prog w) S (fun k' => (xs.take i).any (· == k')) i →
      (∀ s', Moved (S :: wr) G s s' → s'.heap.SetOf (PySem.strKind prog w) S (fun k' => (xs.take n).any (· == k')) n → R (.ok (.ret .none)) s') →
      codeAny (model prog w) A (.builtin "set.update.loop" ⟨[.ref S, .ref I], []⟩) R s := by
  have hSw : S ∉ wr := fun h => hSf (W.sub _ h)
  have hsub : ∀ b ∈ wr, b ∈ S :: wr := fun b hb => List.mem_cons_of_mem _ hb
  intro k
  induction k with
  | zero =>
    intro i s hk hi hst hS hR
    obtain rfl : i = n := by omega
    refine codeAny_builtin PyProof.Rows.F.entry_set_update_loop ?_
    rw [Around.under_plainId PyProof.Rows.F.plain_set_update_loop _]
    show wpAny _ A.in1 (pyNext (.ref I) >>= _) _ _ s
    refine wpAny_bind (W.done s _ _ hst fun s' hm => ?_)
    show wpAny _ A.in1 (ret Value.none) _ _ s'
    obtain ⟨o, es, ep, t, ho, rest⟩ := hS
    exact wpAny_pure (hR s' (hm.mono hsub) ⟨o, es, ep, t, hm.heap S _ hSw ho, rest⟩)
  | succ k ih =>
    intro i s hk hi hst hS hR
    have hlt : i < n := by omega
    have hlx : i < xs.length := by omega
    refine codeAny_builtin PyProof.Rows.F.entry_set_update_loop ?_
    rw [Around.under_plainId PyProof.Rows.F.plain_set_update_loop _]
    show wpAny _ A.in1 (pyNext (.ref I) >>= _) _ _ s
    refine wpAny_bind (W.item i s _ _ hlt hst fun v s' hP hst' hm => ?_)
    obtain ⟨t, rfl⟩ := hval i v hP
    have hS' : s'.heap.SetOf (PySem.strKind prog w) S (fun k' => (xs.take i).any (· == k')) i := by
      obtain ⟨o, es, ep, tb, ho, rest⟩ := hS
      exact ⟨o, es, ep, tb, hm.heap S _ hSw ho, rest⟩
    show wpAny _ A.in1 (holding [Value.str (xs.getD i Str.empty) t] (setAdd S (.str (xs.getD i Str.empty) t)) >>= _) _ _ s'
    refine wpAny_bind (wpAny_holding ?_)
    unfold setAdd
    refine wpAny_holding ?_
    refine wpAny_bind ((PySem.strKind prog w).pyHash (k := xs.getD i Str.empty) (strKind_is _ _ _ _) ?_)
    refine wpAny_setAddHashed_of (knd := PySem.strKind prog w) (s := { s' with toks := s'.toks + 1 }) (strKind_is _ _ _ _) rfl hS' (by unfold scanBound; omega) fun h' hsb hS2 => ?_
    have hSi : h'.SetOf (PySem.strKind prog w) S (fun k' => (xs.take (i + 1)).any (· == k')) (i + 1) :=
      SetOf_congr hS2 (fun k' => (any_take k' hlx).symm) (by show (if (xs.take i).any (· == xs.getD i Str.empty) = true then i else i + 1) = i + 1; rw [not_any nd hlx]; rfl)
    refine wpAny_pure ⟨plainId_quiet PyProof.Rows.F.plain_set_update_loop _, ih (i + 1) _ (by omega) hlt (W.frame _ s' _ _ hst' (Nat.le_succ _) fun b hb o e => ?_) hSi fun s'' hm'' hS'' => ?_⟩
    · rw [hsb.2 b (fun h : b = S => hSf (by rw [← h]; exact hb))]; exact e
    · refine hR s'' (Moved.trans W.gtrans ((hm.mono hsub).then_heap (Nat.le_succ _) fun b o hb e => ?_) hm'') hS''
      rw [hsb.2 b (fun h : b = S => hb (by rw [h]; exact List.mem_cons_self))]; exact e
end
section
variable {prog : Program} {w : World} {A : Around} {E : Value → Shared → Prop} {s : Shared}
theorem set_texts {l : Addr} {items : Array Value} {xs : List Str} {Q : Value → Shared → Prop} (hh : A.handled = none) (hl : s.heap.IsTuple l items) (hi : PyProof.Rows.StrsAre items.toList xs) (nd : xs.Nodup) (hn1 : xs.length ≤ 60)
    (h : ∀ (h' : Heap) (tk : Nat), h'.SetOf (PySem.strKind prog w) s.heap.objs.size (fun k' => (xs.take items.size).any (· == k')) items.size →
      (∀ b o, b < s.heap.objs.size → s.heap.get? b = some o → h'.get? b = some o) → Q (.ref s.heap.objs.size) { s with heap := h', toks := tk }) : wpAny (model prog w) A (call (.type "set") [.ref l]) Q E s := by
  obtain ⟨c, tl, hmro⟩ := PySem.F.called_set.mro
  have hmade := PySem.F.called_set.made
  have hsub := PySem.F.called_set.sub
  refine wpAny_call (codeAny_of_tree ?_)
  show wpAny _ _ (callAny (.type "set") _) _ _ _
  refine wpAny_pure ⟨Code.quiet_builtin _ (by decide +kernel), codeAny_builtin PySem.F.entry_type_call ?_⟩
  rw [Around.under_plain (weight_type_call_type "set" [.ref l] []) rfl]
  have h1 := PySem.F.called_set.notType
  have h2 := PySem.F.called_set.canCreate
  have hct := PySem.F.typeCall_set_1 (.ref l)
  repeat (any_goals (first | assumption | wp_step))
  refine codeAny_mono (code_set_new_1 (.ref l) (E := E) (Q₁ := fun obj s₁ => ∃ led : Bool, obj = .ref s.heap.objs.size ∧ s₁ = { s with heap := s.heap.push { cls := .type "set", dict := none, data := .set #[] 0 (.fresh 0 0 led) } }) fun led => ⟨led, rfl, rfl⟩) fun r s₁ hr => ?_
  match r, hr with
  | .error e, hr => exact hr
  | .ok (.ret obj), hr =>
    obtain ⟨led, rfl, rfl⟩ := hr
    have hS : (s.heap.push { cls := .type "set", dict := none, data := .set #[] 0 (.fresh 0 0 led) }).get? s.heap.objs.size = some { cls := .type "set", dict := none, data := .set #[] 0 (.fresh 0 0 led) } := Heap.get?_push_size _ rfl
    have hT : Shared.TypeIs { s with heap := s.heap.push { cls := .type "set", dict := none, data := .set #[] 0 (.fresh 0 0 led) } } (.ref s.heap.objs.size) "set" := ⟨_, hS, rfl⟩
    have hli := PySem.F.called_set.init.lookup
    have hbi := PySem.F.called_set.init.bind (.ref s.heap.objs.size)
    repeat (any_goals (first | assumption | wp_step))
    refine codeAny_mono (codeAny_call_builtin (R := wants (fun r s₂ => r = .none ∧ ∃ h' tk, s₂ = { s with heap := h', toks := tk } ∧
        h'.SetOf (PySem.strKind prog w) s.heap.objs.size (fun k' => (xs.take items.size).any (· == k')) items.size ∧
        (∀ b o, b < s.heap.objs.size → s.heap.get? b = some o → h'.get? b = some o)) E) PySem.F.called_set.init.plain PySem.F.entry_set_init (check_set_init_1 hT ?_)) fun r₂ s₂ hr₂ => ?_
    · obtain ⟨⟨ocls, odict, odata, oslots⟩, hol, hcl, nl, hdl⟩ := hl
      simp only at hcl hdl
      subst hcl; subst hdl
      have hol' : (s.heap.push { cls := .type "set", dict := none, data := .set #[] 0 (.fresh 0 0 led) }).get? l = some { cls := .type "tuple", dict := odict, data := .seq items nl, slots := oslots } := Heap.get?_push_of_some _ hol
      have hsls := PySem.F.sub_tuple_set
      have hslf := PySem.F.sub_tuple_frozenset
      have hne : (Value.type "tuple" == Value.type "dict") = false := by decide
      have hl1 : (s.heap.push { cls := .type "set", dict := none, data := .set #[] 0 (.fresh 0 0 led) }).IsTuple l items := ⟨_, hol', rfl, nl, rfl⟩
      unfold Builtin.«set.__init__» noKeywords Builtin.Frozenset.updateFrom
      generalize hPI : pyIter = PI
      wp_walk
      subst hPI
      refine wpAny_pyIter_tuple hl1 ?_
      refine wpAny_bind (wpAny_runValue ?_)
      have hlS : l < s.heap.objs.size := Heap.lt_size hol
      have hh3 : A.in1.in1.in1.handled = none := by simp [hh]
      have hneI : l ≠ (s.heap.push { cls := .type "set", dict := none, data := .set #[] 0 (.fresh 0 0 led) }).objs.size := by
        rw [Heap.size_push]; exact Nat.ne_of_lt (Nat.lt_succ_of_lt hlS)
      have hSf : s.heap.objs.size ∉ [(s.heap.push { cls := .type "set", dict := none, data := .set #[] 0 (.fresh 0 0 led) }).objs.size, l] := by
        rw [Heap.size_push]; simp only [List.mem_cons, List.not_mem_nil, or_false, not_or]
        exact ⟨Nat.ne_of_lt (Nat.lt_succ_self _), Nat.ne_of_gt hlS⟩
      have hsz : xs.length = items.size := by rw [← StrsAre.len_eq hi, Array.length_toList]
      have hval : ∀ (i : Nat) (v : Value), items[i]? = some v → ∃ t, v = .str (xs.getD i Str.empty) t := fun i v hv => SS.strs_at hi i v (by rw [Array.getElem?_toList]; exact hv)
      refine loopN ((Walks.tuple hh3 _ l hneI items).toS) s.heap.objs.size hSf xs nd hsz (by rw [← hsz]; exact hn1) hval (items.size - 0) 0 _ (by omega) (Nat.zero_le _)
        ⟨⟨_, Heap.get?_push_size _ rfl, rfl, rfl⟩, (hl1.push _)⟩ ?hS0 ?hR
      case hS0 =>
        have hget : ((s.heap.push { cls := .type "set", dict := none, data := .set #[] 0 (.fresh 0 0 led) }).push { cls := .type "tuple_iterator", data := .fields #[.ref l, .int 0 0] }).get? s.heap.objs.size
            = some { cls := .type "set", dict := none, data := .set #[] 0 (.fresh 0 0 led) } := Heap.get?_push_of_some _ hS
        exact PyProof.Rows.SetOf_congr ((PyProof.Rows.setObjOf_fresh (knd := PySem.strKind prog w) led).setOf hget (by unfold scanBound; omega)) (fun _ => rfl) rfl
      case hR =>
        intro s' hm hS'
        obtain ⟨h', g', d', tk', os'⟩ := s'
        have eg : g' = s.gens := hm.gens
        have ed : d' = s.drawn := hm.drawn
        have eo : os' = s.os := hm.os
        subst eg; subst ed; subst eo
        show wpAny _ _ _ _ _ _
        refine wpAny_pure ?_
        show wpAny _ _ (ret Value.none) _ _ _
        refine wpAny_pure ⟨rfl, h', tk', rfl, hS', fun b o hb e => ?_⟩
        have hb2 : b ≠ (s.heap.push { cls := .type "set", dict := none, data := .set #[] 0 (.fresh 0 0 led) }).objs.size := by
          rw [Heap.size_push]; exact Nat.ne_of_lt (Nat.lt_succ_of_lt hb)
        exact hm.heap b o (by simp only [List.mem_cons, List.not_mem_nil, or_false, not_or]; exact ⟨Nat.ne_of_lt hb, hb2⟩) (Heap.get?_push_of_some _ (Heap.get?_push_of_some _ e))
    · match r₂, hr₂ with
      | .error e, hr₂ => exact hr₂
      | .ok (.ret r), hr₂ =>
        obtain ⟨rfl, h', tk, rfl, hS', hk'⟩ := hr₂
        repeat (any_goals (first | assumption | wp_step))
        exact h _ _ hS' hk'
end
end Wn

set_option Elab.async false
set_option linter.all false
set_option maxRecDepth 100000
set_option maxHeartbeats 4000000
/-! __init__. -/
namespace Wn
open PySem PySem.Spec PyProof.Rows L2
open Zab hiding World Place Row
section
variable {X : Cx}
def tLenSetN (K : PySem.W.Frag) (ta : TE) : TE := fun σ H Q => ta σ H fun x H1 => ∃ l, ∃ xs : List Str, x = .ref l ∧ SqT K H1 l (xs.map V.str) ∧ xs.Nodup ∧ xs.length ≤ 60 ∧ Q (.int xs.length) H1
theorem pe_lenSetN {a : Expr} {ta : TE} {p p2 q pos : Pos} (hc : X.calm = true) (hg : Gl X "len") (hm : X.mg "len" = none) (hg2 : Gl X "set") (hm2 : X.mg "set" = none) (ha : PE X a ta)
    (na : starEach [a] X.env = (false, eval a X.env) :: starEach [] X.env := by rfl) : PE X (.Call (.Name "len" p) [.Call (.Name "set" p2) [a] [] q] [] pos) (tLenSetN X.K ta) := by
  refine ⟨fun pins s σ H Q I h => ?_⟩
  refine Call_ (ld_blt I hg hm PySem.boot_len ?_)
  refine PyProof.Rows.callWith_builtin1 (PyProof.Rows.args_cons ?_ rfl) rfl rfl
  refine Call_ (ld_blt I hg2 hm2 bt_set ?_)
  refine PyProof.Rows.callWith_type1 (PyProof.Rows.args_cons (thn (ha.run pins s σ H _ I h) fun v s1 ⟨x, H1, I1, r1, q1⟩ => PyProof.Rows.args_nil ?_) na) na rfl
  obtain ⟨l, xs, rfl, hq, nd, h1, q1⟩ := q1
  cases r1
  obtain ⟨its, r, pl, hz⟩ := I1.tuple hq
  refine set_texts (I1.ok.hd hc) pl (by simpa using strsAre_of r) nd h1 fun h' tk hS hk => ?_
  refine PyProof.Rows.args_nil ?_
  have hl : its.toArray.size = xs.length := by rw [List.size_toArray, ← r.length, List.length_map]
  rw [hl] at hS
  obtain ⟨o, es, ep, t, ho, hex, hd, _, _, _, hf, hn⟩ := hS
  have I2 : Inv X pins σ H1 { s1 with heap := h', toks := tk } := I1.kept fun b o e => hk b o (Heap.lt_size e) e
  refine PySem.call_len_set ho hex hd hf (by rw [hn] <;> omega) ⟨.int xs.length, H1, I2.tok _, ⟨_, by rw [hn]⟩, q1⟩
end
section
variable {P : Program} {w : World} {K : PySem.W.Frag} {mg : Str → Option Value} {base : Heap}
structure MemOk (M : List Nat) : Prop where
  nm : ∀ x ∈ M, NmOk x
  nd : M.Nodup
  one : 1 ≤ M.length
  few : M.length ≤ 5
def spLookAt (K : PySem.W.Frag) : Sp := fun vs H Q _ => ∃ v, ∃ M : List Nat, vs = [v] ∧ MemOk M ∧ Dp K H v (.tuple (M.map dN)) ∧ ∀ H', Ex H H' → Q .non H'
theorem sc_look_at_members : FnScope ["thing", "one"] ["thing"] (defScope s_look_at_members) := ⟨rfl, rfl, rfl, by decide +kernel, rfl, by decide +kernel, by decide +kernel⟩
theorem ok_look_at_members (T : TX w K mg) : Cal P w K mg base 2 (He.ga K "look_at_members") ["thing"] (spLookAt K) [] := by
  have C_is_word := ok_is_word (P := P) (base := base) T
  refine cal_mk T 22 (d := d_look_at_members) rfl rfl rfl sc_look_at_members (fun vs H Q E h => by obtain ⟨v, M, h, _⟩ := h; rw [h]; rfl) (fun _ _ _ _ _ _ us hl => match us, hl with | [_], _ => rfl) fun cdv A outer s H vs Q E hr h => ?_
  obtain ⟨v, M, rfl, hM, hd, q⟩ := h
  refine ⟨_, (pss_cons (ps_if (PW.pt (pw_or (pt_not (pt_val (pe_isi (by rfl) T.b_isinstance (pv 0) (by rfl) T.b_tuple bt_tuple))) (pw_or (pt_not (pt_chain op_le op_le pe_int (pe_callB call_len (by rfl) T.b_len PySem.boot_len (pa_cons (pv 0) pa_nil)) (pe_gI (by rfl) T.v_MOST_MEMBERS))) (pw_or1 (pt_not (pt_val (pe_callB (cr_all rfl) (by rfl) T.b_all bt_all (pa_cons (pe_lc (own := [("one", 1)]) (g := gName 1) (by rfl) sc_look_at_members.nd (pi_tup (pv 0)) (blkOk_by (own := [("one", 1)]) (N := ["thing", "one"]) (sc := defScope s_look_at_members) (by decide +kernel)) (fun _ _ _ _ _ => pg_name (i := 1) sc_look_at_members.nd rfl (Or.inl rfl)) (fun _ _ _ _ _ => pts_nil) (fun _ _ _ _ _ => (pe_k C_is_word (hr.mono (by decide)) (by rfl) T.g_is_word (pa_cons (pv 1) pa_nil)))) pa_nil)))))))) pss_never pss_nil)
    (pss_one (ps_if (pt_cmpR op_lt (pe_lenSetN rfl (by rfl) T.b_len (by rfl) T.b_set (pv 0)) (pe_callB call_len (by rfl) T.b_len PySem.boot_len (pa_cons (pv 0) pa_nil)) (nomark _)) pss_never pss_nil))), ?_⟩
  have hl : (M.map dN).length = M.length := List.length_map _
  have h5 := hM.few
  have h1 := hM.one
  refine q_ifF (Evl.et_is (Evl.et_or (a := false) (b := false) (et_n (et_b (evd_isi (evd_var hd) k_tt))) fun _ => Evl.et_or (a := false) (b := false) (et_n ?_) fun _ => et_n (et_b ((evd_all (bs := M.map fun _ => true) ((evn_lcT (g := dN) (fun _ => true) (fun _ => .bool true) (evd_var hd) (by omega) (fun _ _ => .bl _) (fun _ _ _ _ _ _ => et_yes)
    fun o ho v H1 e hv _ => evd_F (nS o) (word_nm (hM.nm o ho)) (eds_one (evd_var hv))).d.to (by rw [filter_true, List.map_map]; rfl))).to (by simp)))) rfl) fun H1 e1 => ?_
  · refine et_to (et_t (et_chain (a := decide ((1 : Int) ≤ ((M.map dN).length : Int))) (b := decide (((M.map dN).length : Int) ≤ 7)) evd_int (evd_lenT (evd_var hd)) (rd_I0 fun H => .bl _) (fun _ => evd_int) (fun _ => rd_I0 fun H => .bl _))) ?_
    rw [hl, decide_eq_true (show (1 : Int) ≤ (M.length : Int) by omega), decide_eq_true (show (M.length : Int) ≤ 7 by omega)]
    rfl
  · have hd1 := dp_ex e1 hd
    obtain ⟨l, xs, rfl, s1, s2⟩ := dp_tup hd1
    have hxs : xs = (M.map nS).map V.str := dpA_strs (ss := M.map nS) (by rw [List.map_map]; exact s2)
    subst hxs
    have ndS : (M.map nS).Nodup := by
      refine List.pairwise_map.mpr (hM.nd.imp fun {a b} hne z => hne (nS_inj.mp z))
    refine s_ifF (D := { nx := fun _ H' => Q .non H', rt := Q }) (fun H2 e2 Q2 k2 => ?_) fun H2 e2 => q H2 (e1.trans e2)
    refine ⟨_, rfl, l, M.map nS, rfl, Evl.ex_t e2 s1, ndS, by rw [List.length_map]; omega, ?_⟩
    refine ⟨_, rfl, .ref l, M.length, rfl, .inr ⟨_, Evl.ex_t e2 s1, by rw [List.length_map, List.length_map]⟩, ?_⟩
    refine ⟨((M.map nS).length : Int), (M.length : Int), rfl, rfl, ?_⟩
    refine ⟨false, ?_, k2 H2 (Evl.Ex.refl _)⟩
    rw [List.length_map]
    exact congrArg V.bl (decide_eq_false (by omega))
end
end Wn

set_option Elab.async false
set_option linter.all false
set_option maxRecDepth 100000
set_option maxHeartbeats 4000000
/-! __init__: a bare object becomes a house. -/
namespace Wn
open PySem PySem.Spec PyProof.Rows L2
open Zab hiding World Place Row
def Fr0 (p : Addr) (H H' : Hp) : Prop := ∀ d o, H d = some o → d ≠ p → H' d = some o
theorem Fr0.trans {p : Addr} {H H1 H2 : Hp} (a : Fr0 p H H1) (b : Fr0 p H1 H2) : Fr0 p H H2 := fun d o h n => b d o (a d o h n) n
theorem Fr0.ex {p : Addr} {H H1 : Hp} (a : Ex H H1) : Fr0 p H H1 := fun d o h _ => a d o h
section
variable {K : PySem.W.Frag} {σ : L2.St} {H : Hp} {tv : TE} {f : Str} {D : Ends} {tz : TS} {p dx : Addr} {fs : List (Str × V)}
theorem s_bare {P : V → Hp → Prop} (h0 : σ[0]? = some (some (.ref p))) (cl : Cls K (CH K)) (na : NoAttr K (CH K) f) (hp : H p = some (.ins (CH K) dx fs)) (hl : fs.length < 1000) (hv : ∀ Q : VK, (∀ v H1, Ex H H1 → P v H1 → Q v H1) → tv σ H Q)
    (k : ∀ v H1 H2, Ex H H1 → P v H1 → Fr0 p H1 H2 → H2 p = some (.ins (CH K) dx (putF f v fs)) → D.nx σ H2) : sFld K (tVar 0) tv f D σ H :=
  hv _ fun v H1 e pv => ⟨_, h0, p, CH K, dx, fs, rfl, e _ _ hp, cl, na, hl, k v H1 _ e pv (fun d o h n => by rw [upd_ne n]; exact h) upd_same⟩
theorem q_bare {P : V → Hp → Prop} (h0 : σ[0]? = some (some (.ref p))) (cl : Cls K (CH K)) (na : NoAttr K (CH K) f) (hp : H p = some (.ins (CH K) dx fs)) (hl : fs.length < 1000) (hv : ∀ Q : VK, (∀ v H1, Ex H H1 → P v H1 → Q v H1) → tv σ H Q)
    (k : ∀ v H1 H2, Ex H H1 → P v H1 → Fr0 p H1 H2 → H2 p = some (.ins (CH K) dx (putF f v fs)) → tz D σ H2) : tSeq (sFld K (tVar 0) tv f) tz D σ H := s_bare (D := { D with nx := tz D }) h0 cl na hp hl hv k
theorem q_bareV {v : V} (h0 : σ[0]? = some (some (.ref p))) (cl : Cls K (CH K)) (na : NoAttr K (CH K) f) (hp : H p = some (.ins (CH K) dx fs)) (hl : fs.length < 1000) (hv : Evl.Ev tv σ H v)
    (k : ∀ H2, Fr0 p H H2 → H2 p = some (.ins (CH K) dx (putF f v fs)) → tz D σ H2) : tSeq (sFld K (tVar 0) tv f) tz D σ H :=
  q_bare (P := fun u _ => u = v) h0 cl na hp hl (fun Q q => hv H (Evl.Ex.refl H) Q fun H1 e => q v H1 e rfl) fun u H1 H2 e pu fr h2 => by
    subst pu
    exact k H2 ((Fr0.ex e).trans fr) h2
def spStand0 (K : PySem.W.Frag) : Sp := fun vs H Q _ => ∃ (x : HX) (h : House), vs = [.ref x.p] ∧ H x.p = some (.ins (CH K) x.dx ((hfs x h).take 9)) ∧
  ∀ a b c H', H a = none → H b = none → H c = none → a ≠ b → a ≠ c → b ≠ c → Fr0 x.p H H' → H' x.p = some (.ins (CH K) x.dx (hfs { x with prom := a, tak := b, heard := c } h.standDown)) → H' a = some (.dK []) → H' b = some (.dK []) → H' c = some (.dK []) → Q .non H'
end
section
variable {P : Program} {w : World} {K : PySem.W.Frag} {mg : Str → Option Value} {base : Heap}
theorem newDk {σ : L2.St} {H : Hp} : ∀ Q : VK, (∀ v H1, Ex H H1 → (∃ a, v = .ref a ∧ H a = none ∧ H1 a = some (.dK [])) → Q v H1) → tDNewK σ H Q := fun Q k p hp => k _ _ (Evl.Ex.new hp) ⟨p, rfl, hp, upd_same⟩
theorem ok_stand0 (T : TX w K mg) : Cal P w K mg base 1 (He.ma K (CH K) "stand_down") ["self"] (spStand0 K) [] := by
  refine cal_mk T 33 (d := e_stand_down) rfl rfl rfl sc_H_stand_down (fun vs H Q E z => by obtain ⟨x, h, z, _⟩ := z; rw [z]; rfl) (fun _ _ _ _ _ _ us hl => match us, hl with | [_], _ => rfl) fun cdv A outer s H vs Q E hr z => ?_
  obtain ⟨x, h, rfl, hp, q⟩ := z
  refine ⟨_, (pss_cons (ps_fld (pv 0) pe_str rfl)
    (pss_cons (ps_fld (pv 0) pe_non rfl)
    (pss_cons (ps_fld (pv 0) pe_non rfl)
    (pss_cons (ps_fld (pv 0) pe_dnewK rfl)
    (pss_cons (ps_fld (pv 0) pe_dnewK rfl)
    (pss_cons (ps_fld (pv 0) pe_int rfl)
    (pss_one (ps_fld (pv 0) pe_dnewK rfl)))))))), ?_⟩
  refine q_bareV (by rfl) T.cls T.a_own_role hp (by show 9 < 1000; decide) Evl.ev_c fun H1 f1 p1 => ?_
  have p1 : H1 x.p = some (.ins (CH K) x.dx ((hfs x { h with role := .seeks }).take 10)) := p1.trans (congrArg (fun l => some (HO.ins (CH K) x.dx l)) (by kernel_rfl))
  refine q_bareV (by rfl) T.cls T.a_own_head p1 (by show 10 < 1000; decide) Evl.ev_c fun H2 f2 p2 => ?_
  have p2 : H2 x.p = some (.ins (CH K) x.dx ((hfs x { h with role := .seeks, head := none }).take 11)) := p2.trans (congrArg (fun l => some (HO.ins (CH K) x.dx l)) (by kernel_rfl))
  refine q_bareV (by rfl) T.cls T.a_sought p2 (by show 11 < 1000; decide) Evl.ev_c fun H3 f3 p3 => ?_
  have p3 : H3 x.p = some (.ins (CH K) x.dx ((hfs x { h with role := .seeks, head := none, sought := none }).take 12)) := p3.trans (congrArg (fun l => some (HO.ins (CH K) x.dx l)) (by kernel_rfl))
  have F3 := (f1.trans f2).trans f3
  have nn : ∀ {G : Hp} {a : Addr}, Fr0 x.p H G → G a = none → G x.p ≠ none → H a = none := fun {G a} F ha hx => by
    cases z : H a with
    | none => rfl
    | some o =>
      by_cases c : a = x.p
      · rw [c] at ha; exact absurd ha hx
      · rw [F a o z c] at ha; cases ha
  refine q_bare (by rfl) T.cls T.a_promises p3 (by show 12 < 1000; decide) (by exact newDk) fun va G4 H4 e4 pa f4 p4 => ?_
  obtain ⟨a, rfl, ha, ga⟩ := pa
  have p4 : H4 x.p = some (.ins (CH K) x.dx ((hfs { x with prom := a } { h with role := .seeks, head := none, sought := none, promises := [] }).take 13)) := p4.trans (congrArg (fun l => some (HO.ins (CH K) x.dx l)) (by kernel_rfl))
  have nap : a ≠ x.p := fun z => by rw [z, p3] at ha; cases ha
  have F4 := (F3.trans (Fr0.ex e4)).trans f4
  refine q_bare (by rfl) T.cls T.a_taken p4 (by show 13 < 1000; decide) (by exact newDk) fun vb G5 H5 e5 pb f5 p5 => ?_
  obtain ⟨b, rfl, hb, gb⟩ := pb
  have p5 : H5 x.p = some (.ins (CH K) x.dx ((hfs { x with prom := a, tak := b } { h with role := .seeks, head := none, sought := none, promises := [], taken := [] }).take 14)) := p5.trans (congrArg (fun l => some (HO.ins (CH K) x.dx l)) (by kernel_rfl))
  have nbp : b ≠ x.p := fun z => by rw [z, p4] at hb; cases hb
  have F5 := (F4.trans (Fr0.ex e5)).trans f5
  refine q_bareV (by rfl) T.cls T.a_own_clock p5 (by show 14 < 1000; decide) Evl.ev_c fun H6 f6 p6 => ?_
  have p6 : H6 x.p = some (.ins (CH K) x.dx ((hfs { x with prom := a, tak := b } h.standDown).take 15)) := p6.trans (congrArg (fun l => some (HO.ins (CH K) x.dx l)) (by kernel_rfl))
  have F6 := F5.trans f6
  refine s_bare (by rfl) T.cls T.a_heard_at p6 (by show 15 < 1000; decide) (by exact newDk) fun vc G7 H7 e7 pc f7 p7 => ?_
  obtain ⟨c, rfl, hc, gc⟩ := pc
  have p7 : H7 x.p = some (.ins (CH K) x.dx (hfs { x with prom := a, tak := b, heard := c } h.standDown)) := p7.trans (congrArg (fun l => some (HO.ins (CH K) x.dx l)) (by kernel_rfl))
  have ncp : c ≠ x.p := fun z => by rw [z, p6] at hc; cases hc
  have a4 := f4 _ _ ga nap
  have b5 := f5 _ _ gb nbp
  have a6 := f6 _ _ (f5 _ _ (e5 _ _ a4) nap) nap
  have b6 := f6 _ _ b5 nbp
  refine q a b c H7 (nn F3 ha (by rw [p3]; intro z; cases z)) (nn F4 hb (by rw [p4]; intro z; cases z)) (nn F6 hc (by rw [p6]; intro z; cases z)) ?_ ?_ ?_ ((F6.trans (Fr0.ex e7)).trans f7) p7 (f7 _ _ (e7 _ _ a6) nap) (f7 _ _ (e7 _ _ b6) nbp) (f7 _ _ gc ncp)
  · intro z; rw [← z, a4] at hb; cases hb
  · intro z; rw [← z, a6] at hc; cases hc
  · intro z; rw [← z, b6] at hc; cases hc
end
end Wn

set_option Elab.async false
set_option linter.all false
set_option maxRecDepth 100000
set_option maxHeartbeats 4000000
/-! __init__ (2). -/
namespace Wn
open PySem PySem.Spec PyProof.Rows L2
open Zab hiding World Place Row
section
variable {P : Program} {w : World} {K : PySem.W.Frag} {mg : Str → Option Value} {base : Heap}
def spAnew0 (K : PySem.W.Frag) : Sp := fun vs H Q _ => ∃ (x : HX) (h : House), vs = [.ref x.p] ∧ H x.p = some (.ins (CH K) x.dx ((hfs x h).take 6)) ∧ h.row = [] ∧ SqT K H x.mem (h.mem.map fun n => V.str (nS n)) ∧ H x.row = some (.lst []) ∧
  ∀ x' H', x'.p = x.p → HAt K H' x' h.beginAnew → Fr0 x.p H H' → (∀ b, Own x' b → b = x.p ∨ b = x.row ∨ H b = none) → Q .non H'
theorem fr0_t {H H' : Hp} {p a : Addr} {xs : List V} {o : HO} (f : Fr0 p H H') (hp : H p = some o) (ho : ∀ ys, o ≠ .tup ys) (h : SqT K H a xs) (hf : ∀ u v, o ≠ .frz u v) : SqT K H' a xs :=
  sqT_keep (fun b ys hb => f b _ hb fun z => by rw [z, hp] at hb; exact ho _ (Option.some.inj hb)) (fun b u v hb => f b _ hb fun z => by rw [z, hp] at hb; exact hf _ _ (Option.some.inj hb)) h
theorem ok_anew0 (T : TX w K mg) : Cal P w K mg base 3 (He.ma K (CH K) "begin_anew") ["self"] (spAnew0 K) [] := by
  have C_first_state := ok_first_state (P := P) (base := base) T
  have M_stand_down := ok_stand0 (P := P) (base := base) T
  refine cal_mk T 32 (d := e_begin_anew) rfl rfl rfl sc_H_begin_anew (fun vs H Q E z => by obtain ⟨x, h, z, _⟩ := z; rw [z]; rfl) (fun _ _ _ _ _ _ us hl => match us, hl with | [_], _ => rfl) fun cdv A outer s H vs Q E hr z => ?_
  obtain ⟨x, h, rfl, hp, hrow, hmem, hrw, q⟩ := z
  refine ⟨_, (pss_cons (ps_fld (pv 0) (pe_gR (by rfl) T.g_NOWHERE) rfl)
    (pss_cons (ps_fld (pv 0) (pe_k0 C_first_state (hr.mono (by decide)) (by rfl) T.g_first_state) rfl)
    (pss_cons (ps_fld (pv 0) (pe_lst pa_nil) rfl)
    (pss_one (ps_expr (pe_m0 T.cls T.m_stand_down M_stand_down (hr.mono (by decide)) (pv 0))))))), ?_⟩
  refine q_bareV (v := .ref (He.ga K "NOWHERE")) (by rfl) T.cls T.a_own_done hp (by show 6 < 1000; decide) Evl.ev_c fun H1 f1 p1 => ?_
  have p1 : H1 x.p = some (.ins (CH K) x.dx ((hfs { x with done := He.ga K "NOWHERE" } { h with done := (0, 0) }).take 7)) := p1.trans (congrArg (fun l => some (HO.ins (CH K) x.dx l)) (by kernel_rfl))
  refine q_bare (P := fun v G => ∃ a n s, v = .ref a ∧ StNew K H1 G a n s) (by rfl) T.cls T.a_own_state p1 (by show 7 < 1000; decide) (by exact fun Q k => c_call0 ⟨rfl, fun a n s H' e S => k _ H' e ⟨a, n, s, rfl, S⟩⟩) fun va G2 H2 e2 pa f2 p2 => ?_
  obtain ⟨st, sn, ss, rfl, S2⟩ := pa
  have p2 : H2 x.p = some (.ins (CH K) x.dx ((hfs { x with done := He.ga K "NOWHERE", st := st, stn := sn, sts := ss } { h with done := (0, 0) }).take 8)) := p2.trans (congrArg (fun l => some (HO.ins (CH K) x.dx l)) (by kernel_rfl))
  refine q_bare (P := fun v G => ∃ a, v = .ref a ∧ H2 a = none ∧ G a = some (.lst [])) (by rfl) T.cls T.a_fresh p2 (by show 8 < 1000; decide) (by
    exact fun Q k => (evn_lst (K := K) eds_nil) H2 (Evl.Ex.refl _) Q fun a G ha e l => k _ G e ⟨a, rfl, ha, by
      obtain ⟨vs, l1, l2⟩ := l
      rw [dpA0 l2] at l1
      exact l1⟩) fun vf G3 H3 e3 pf f3 p3 => ?_
  obtain ⟨fr, rfl, hfr, gfr⟩ := pf
  let x3 : HX := { x with done := He.ga K "NOWHERE", st := st, stn := sn, sts := ss, fresh := fr }
  have p3 : H3 x.p = some (.ins (CH K) x.dx ((hfs x3 { h with done := (0, 0), fresh := 0 }).take 9)) := p3.trans (congrArg (fun l => some (HO.ins (CH K) x.dx l)) (by kernel_rfl))
  have F2 := (f1.trans (Fr0.ex e2)).trans f2
  have F3 := (F2.trans (Fr0.ex e3)).trans f3
  have nn : ∀ {G : Hp} {a : Addr}, Fr0 x.p H G → G a = none → G x.p ≠ none → H a = none := fun {G a} F ha hx => by
    cases z : H a with
    | none => rfl
    | some o =>
      by_cases c : a = x.p
      · rw [c] at ha; exact absurd ha hx
      · rw [F a o z c] at ha; cases ha
  have nfp : fr ≠ x.p := fun z => by rw [z, p2] at hfr; cases hfr
  have hn1 : ∀ {a}, H1 a = none → a ≠ x.p := fun {a} ha z => by rw [z, p1] at ha; cases ha
  obtain ⟨kn, kn1, kn2⟩ := S2.kn
  obtain ⟨ks, ks1, ks2⟩ := S2.ks
  have nsn := hn1 S2.hn
  have nss := hn1 S2.hs
  -- self.stand_down()
  refine ⟨_, rfl, x.p, x.dx, _, rfl, p3, by kernel_rfl, ?_⟩
  refine ⟨x3, { h with done := (0, 0), fresh := 0 }, rfl, p3, fun a b c H4 ha hb hc nab nac nbc f4 p4 ga gb gc => ?_⟩
  have F4 := F3.trans f4
  have tuF : ∀ {G G' : Hp} {xs : List (Str × V)}, Fr0 x.p G G' → G x.p = some (.ins (CH K) x.dx xs) → Tups G G' ∧ Frz G G' := fun {G G' xs} F hg => ⟨fun d ys hd => F d _ hd fun z => (by rw [z, hg] at hd; cases hd), fun d u v hd => F d _ hd fun z => (by rw [z, hg] at hd; cases hd)⟩
  have F24 : Fr0 x.p G2 H4 := ((f2.trans (Fr0.ex e3)).trans f3).trans f4
  have hG2 : G2 x.p = some (.ins (CH K) x.dx ((hfs { x with done := He.ga K "NOWHERE" } { h with done := (0, 0) }).take 7)) := e2 _ _ p1
  obtain ⟨tu2, fr2⟩ := tuF F24 hG2
  obtain ⟨tu0, fr0⟩ := tuF F4 hp
  have sn4 := F24 _ _ kn1 nsn
  have ss4 := F24 _ _ ks1 nss
  have fr4 : H4 fr = some (.lst []) := f4 _ _ (f3 _ _ gfr nfp) nfp
  have rw4 : H4 x.row = some (.lst []) := F4 _ _ hrw fun z => by rw [z, hp] at hrw; cases hrw
  have hp3n : H3 x.p ≠ none := by rw [p3]; intro z; cases z
  have hp2n : H2 x.p ≠ none := by rw [p2]; intro z; cases z
  have hp1n : H1 x.p ≠ none := by rw [p1]; intro z; cases z
  have d3 : ∀ {y : Addr} {o : HO}, H3 y = some o → y ≠ a ∧ y ≠ b ∧ y ≠ c := fun {y o} hy => ⟨fun z => (by rw [z, ha] at hy; cases hy), fun z => (by rw [z, hb] at hy; cases hy), fun z => (by rw [z, hc] at hy; cases hy)⟩
  have sn3 : H3 sn = some (.dK kn) := f3 _ _ (e3 _ _ (f2 _ _ kn1 nsn)) nsn
  have ss3 : H3 ss = some (.dK ks) := f3 _ _ (e3 _ _ (f2 _ _ ks1 nss)) nss
  obtain ⟨m1, m2, m3⟩ := d3 sn3
  obtain ⟨m4, m5, m6⟩ := d3 ss3
  refine q { x3 with prom := a, tak := b, heard := c } H4 rfl ⟨p4, ⟨sqT_keep tu0 fr0 hmem, ⟨[], rw4, ?_⟩, T.nowhere H4, sqT_keep tu2 fr2 S2.t, ⟨kn, sn4, kn2⟩, ⟨ks, ss4, ks2.keep tu2 fr2⟩, ⟨[], fr4, rfl⟩, ⟨[], ga, trivial⟩, ⟨[], gb, trivial⟩, gc, ?_, ?_⟩⟩ F4 fun y hy => ?_
  · show DpAll K H4 [] (h.row.map dT)
    rw [hrow]
    exact .nil
  · intro z
    have z : x.row = fr := z
    have := F2 _ _ hrw fun z => by rw [z, hp] at hrw; cases hrw
    rw [z, hfr] at this
    cases this
  · exact nd5.mpr ⟨⟨S2.ne, m1, m2, m3⟩, ⟨m4, m5, m6⟩, ⟨nab, nac⟩, nbc⟩
  · rcases hy with hy | hy | hy | hy | hy | hy | hy | hy
    · exact .inl hy
    · exact .inr (.inl hy)
    · rw [hy]; exact .inr (.inr (nn f1 S2.hn hp1n))
    · rw [hy]; exact .inr (.inr (nn f1 S2.hs hp1n))
    · rw [hy]; exact .inr (.inr (nn F2 hfr hp2n))
    · rw [hy]; exact .inr (.inr (nn F3 ha hp3n))
    · rw [hy]; exact .inr (.inr (nn F3 hb hp3n))
    · rw [hy]; exact .inr (.inr (nn F3 hc hp3n))
end
end Wn

set_option Elab.async false
set_option linter.all false
set_option maxRecDepth 100000
set_option maxHeartbeats 4000000
/-! __init__ (3). -/
namespace Wn
open PySem PySem.Spec PyProof.Rows L2
open Zab hiding World Place Row
section
variable {P : Program} {w : World} {K : PySem.W.Frag} {mg : Str → Option Value} {base : Heap}
def spInit (K : PySem.W.Frag) : Sp := fun vs H Q _ => ∃ (p dx mem : Addr) (n : Nat) (M : List Nat), vs = [.ref p, .str (nS n), .ref mem, .str "all"] ∧ H p = some (.ins (CH K) dx []) ∧ MemOk M ∧ n ∈ M ∧ SqT K H mem (M.map fun n => V.str (nS n)) ∧
  ∀ x H', x.p = p → HAt K H' x (first n M) → Fr0 p H H' → (∀ b, Own x b → b = p ∨ H b = none) → Q .non H'
theorem dpA_names {H : Hp} : ∀ M : List Nat, DpAll K H (M.map fun n => V.str (nS n)) (M.map dN)
  | [] => .nil
  | _ :: M => .cons (.str _) (dpA_names M)
theorem sc_H_init : FnScope ["self", "name", "members", "looks"] ["self", "name", "members", "looks"] (defScope m_init) := ⟨rfl, rfl, rfl, by decide +kernel, rfl, by decide +kernel, by decide +kernel⟩
theorem ok_init (T : TX w K mg) : CalK P w K mg base 4 (He.ma K (CH K) "__init__") ["self", "name", "members", "looks"] 3 ["looks"] (spInit K) := by
  have C_look_at_members := ok_look_at_members (P := P) (base := base) T
  have C_is_word := ok_is_word (P := P) (base := base) T
  have M_begin_anew := ok_anew0 (P := P) (base := base) T
  obtain ⟨fd, F⟩ := T.says.d.def_ 31 (d := e_init) rfl
  have e1 : e_init.dvs K = [] := rfl
  rw [e1] at F
  have O : FnOk P w K mg base CX0 4 (He.fAd K e_init.at_) fd ["self", "name", "members", "looks"] (spInit K) := F.ok sc_H_init (fun vs H Q E z => by
    obtain ⟨p, dx, mem, n, M, rfl, _⟩ := z
    rfl) fun cdv A outer s H vs Q E hr z => by
    obtain ⟨p, dx, mem, n, M, rfl, hp, hM, hn, hmem, q⟩ := z
    have dm : Dp K H (.ref mem) (.tuple (M.map dN)) := .tup hmem (dpA_names M)
    have dm2 : Dp K H (.ref mem) (.tuple ((M.map nS).map .str)) := by rw [List.map_map]; exact dm
    have hcon : (M.map nS).contains (nS n) = true := by
      rw [List.contains_iff_mem]
      exact List.mem_map.mpr ⟨n, hn, rfl⟩
    suffices hh : ∃ t, PSs (BX P w K mg base ["self", "name", "members", "looks"] e_init.qual e_init.scope (He.fAd K e_init.at_) cdv A outer s H E) e_init.body t ∧ t { nx := fun _ H' => Q .non H', rt := Q } (start ["self", "name", "members", "looks"] [.ref p, .str (nS n), .ref mem, .str "all"]) H by
      obtain ⟨t, h1, h2⟩ := hh
      exact ⟨t, h1.nox, h2⟩
    refine ⟨_, (pss_cons (ps_expr (pe_k C_look_at_members (hr.mono (by decide)) (by rfl) T.g_look_at_members (pa_cons (pv 2) pa_nil)))
    (pss_cons (ps_if (PW.pt (pw_or (pt_not (pt_val (pe_k C_is_word (hr.mono (by decide)) (by rfl) T.g_is_word (pa_cons (pv 1) pa_nil)))) (pw_or1 (pt_cmpR op_notIn_seq (pv 1) (pv 2) (by rfl))))) pss_never pss_nil)
    (pss_cons (ps_if (PW.pt (pw_or (pt_not (pt_val (pe_isi (by rfl) T.b_isinstance (pv 3) (by rfl) T.b_str bt_str))) (pw_or1 (pt_cmpR op_notIn_seq (pv 3) (pe_gR (by rfl) T.g_LOOKS) (by rfl))))) pss_never pss_nil)
    (pss_cons (ps_fld (pv 0) (pv 1) rfl)
    (pss_cons (ps_fld (pv 0) (pv 2) rfl)
    (pss_cons (ps_fld (pv 0) (pv 3) rfl)
    (pss_cons (ps_fld (pv 0) pe_int rfl)
    (pss_cons (ps_fld (pv 0) pe_int rfl)
    (pss_cons (ps_fld (pv 0) (pe_lst pa_nil) rfl)
    (pss_one (ps_expr (pe_m0 T.cls T.m_begin_anew M_begin_anew (hr.mono (by decide)) (pv 0))))))))))))), ?_⟩
    refine c_drop (c_call (c_cons (c_var (i := 2) (c_nil ⟨_, M, rfl, hM, dm, fun H1 e1 => ?_⟩) (by rfl))))
    refine q_ifF (Evl.et_is (Evl.et_or (a := false) (b := false) (et_n (et_b (K := K) (evd_F (nS n) (word_nm (hM.nm n hn)) (eds_one (evd_var (i := 1) (.str _) (by rfl)))))) fun _ => et_to (et_t (K := K) (evd_op (evd_var (i := 1) (.str _) (by rfl)) (evd_var (i := 2) (dp_ex e1 dm2) (by rfl)) (rd_inS (x := nS n) (neg := true)))) (by rw [hcon]; rfl)) rfl) fun H2 e2 => ?_
    refine q_ifF (Evl.et_is (Evl.et_or (a := false) (b := false) (et_n (et_b (K := K) (evd_isi (evd_var (i := 3) (.str "all") (by rfl)) k_ss))) fun _ => et_to (et_t (K := K) (evd_op (evd_var (i := 3) (.str "all") (by rfl)) (evd_c (T.looks H2)) (rd_inS (x := "all") (ss := ["all", "epoch", "none"]) (neg := true)))) (by decide +kernel)) rfl) fun H3 e3 => ?_
    have E3 := (e1.trans e2).trans e3
    have p0 := E3 _ _ hp
    let h0 : House := first n M
    let x0 : HX := ⟨p, dx, mem, 0, 0, 0, 0, 0, 0, 0, 0, 0⟩
    have p0 : H3 p = some (.ins (CH K) dx ((hfs x0 h0).take 0)) := p0
    refine q_bareV (by rfl) T.cls T.a_own_name p0 (by show 0 < 1000; decide) (ev_var (i := 1) (by rfl)) fun H4 f4 p4 => ?_
    have p4 : H4 p = some (.ins (CH K) dx ((hfs x0 h0).take 1)) := p4.trans (congrArg (fun l => some (HO.ins (CH K) dx l)) (by kernel_rfl))
    refine q_bareV (by rfl) T.cls T.a_own_members p4 (by show 1 < 1000; decide) (ev_var (i := 2) (by rfl)) fun H5 f5 p5 => ?_
    have p5 : H5 p = some (.ins (CH K) dx ((hfs x0 h0).take 2)) := p5.trans (congrArg (fun l => some (HO.ins (CH K) dx l)) (by kernel_rfl))
    refine q_bareV (by rfl) T.cls T.a_own_looks p5 (by show 2 < 1000; decide) (ev_var (i := 3) (by rfl)) fun H6 f6 p6 => ?_
    have p6 : H6 p = some (.ins (CH K) dx ((hfs x0 h0).take 3)) := p6.trans (congrArg (fun l => some (HO.ins (CH K) dx l)) (by kernel_rfl))
    refine q_bareV (by rfl) T.cls T.a_own_promised p6 (by show 3 < 1000; decide) Evl.ev_c fun H7 f7 p7 => ?_
    have p7 : H7 p = some (.ins (CH K) dx ((hfs x0 h0).take 4)) := p7.trans (congrArg (fun l => some (HO.ins (CH K) dx l)) (by kernel_rfl))
    refine q_bareV (by rfl) T.cls T.a_own_epoch p7 (by show 4 < 1000; decide) Evl.ev_c fun H8 f8 p8 => ?_
    have p8 : H8 p = some (.ins (CH K) dx ((hfs x0 h0).take 5)) := p8.trans (congrArg (fun l => some (HO.ins (CH K) dx l)) (by kernel_rfl))
    have F8 : Fr0 p H H8 := (((((Fr0.ex E3).trans f4).trans f5).trans f6).trans f7).trans f8
    refine q_bare (P := fun v G => ∃ a, v = .ref a ∧ H8 a = none ∧ G a = some (.lst [])) (by rfl) T.cls T.a_own_row p8 (by show 5 < 1000; decide) (by
      exact fun Q k => (evn_lst (K := K) eds_nil) H8 (Evl.Ex.refl _) Q fun a G ha e l => k _ G e ⟨a, rfl, ha, by
        obtain ⟨vs, l1, l2⟩ := l
        rw [dpA0 l2] at l1
        exact l1⟩) fun vr G9 H9 e9 pr f9 p9 => ?_
    obtain ⟨ra, rfl, hra, gra⟩ := pr
    let x1 : HX := ⟨p, dx, mem, ra, 0, 0, 0, 0, 0, 0, 0, 0⟩
    have p9 : H9 p = some (.ins (CH K) dx ((hfs x1 h0).take 6)) := p9.trans (congrArg (fun l => some (HO.ins (CH K) dx l)) (by kernel_rfl))
    have F9 := (F8.trans (Fr0.ex e9)).trans f9
    have nrp : ra ≠ p := fun z => by rw [z, p8] at hra; cases hra
    refine c_drop1 ⟨_, rfl, p, dx, _, rfl, p9, by kernel_rfl, ?_⟩
    refine ⟨x1, h0, rfl, p9, rfl, fr0_t F9 hp (fun _ z => by cases z) hmem (fun _ _ z => by cases z), f9 _ _ gra nrp, fun x' H10 hx' i10 f10 o10 => ?_⟩
    refine q x' H10 hx' i10 (F9.trans f10) fun b hb => ?_
    have nn : ∀ {G : Hp} {a : Addr}, Fr0 p H G → G a = none → G p ≠ none → H a = none := fun {G a} F ha hx => by
      cases z : H a with
      | none => rfl
      | some o =>
        by_cases c : a = p
        · rw [c] at ha; exact absurd ha hx
        · rw [F a o z c] at ha; cases ha
    rcases o10 b hb with z | z | z
    · exact .inl z
    · rw [z]; exact .inr (nn F8 hra (by rw [p8]; intro y; cases y))
    · exact .inr (nn F9 z (by rw [p9]; intro y; cases y))
  obtain ⟨mv, hb⟩ := F.kbinds0 (ps := ["self", "name", "members", "looks"]) 3 ["looks"] [] (fun us _ ws => us ++ ws) (by intro z; cases z) (fun q hq => by cases hq) (fun r1 _ r2 => r1.append r2)
    (fun D doc pm an cdv ct us mv ws l1 l2 l3 => match us, mv, ws, l1, l2, l3 with
      | [_, _, _], [], [_], _, _, _ => rfl)
  exact ⟨⟨fd, O, hb⟩, F.kp⟩
end
end Wn

set_option Elab.async false
set_option linter.all false
set_option maxRecDepth 100000
set_option maxHeartbeats 4000000
/-! the law's pool of numbers. -/
namespace Wn
open PySem PySem.Spec PyProof.Rows L2
open Zab hiding World Place Row
section
variable {P : Program} {w : World} {K : PySem.W.Frag} {mg : Str → Option Value} {base : Heap}
def PoolAt (H : Hp) (p : Addr) : Prop := ∃ c s : Int, H p = some (.lst [.int c, .int s]) ∧ 0 ≤ s ∧ s < 2147483647
def spPool (K : PySem.W.Frag) : Sp := fun vs H Q _ => ∃ (v : V) (k : Nat) (ns : List Int), vs = [v, .int (k : Int)] ∧ Dp K H v (.list (ns.map .int)) ∧ k ≤ 1000 ∧ ∀ p H', H p = none → Ex H H' → PoolAt H' p → Q (.ref p) H'
theorem sc_law_pool : FnScope ["_law_script", "_law_k", "_law_cell", "_law_seed"] ["_law_script", "_law_k"] (defScope s_law_pool) := ⟨rfl, rfl, rfl, by decide +kernel, rfl, by decide +kernel, by decide +kernel⟩
theorem ok_law_pool (T : TX w K mg) : Cal P w K mg base 1 (He.ga K "_law_pool") ["_law_script", "_law_k"] (spPool K) [] := by
  refine cal_mk T 25 (d := d_law_pool) rfl rfl rfl sc_law_pool (fun vs H Q E z => by obtain ⟨v, k, ns, z, _⟩ := z; rw [z]; rfl) (fun _ _ _ _ _ _ us hl => match us, hl with | [_, _], _ => rfl) fun cdv A outer s H vs Q E hr z => ?_
  obtain ⟨v, k, ns, rfl, hd, hk, q⟩ := z
  refine ⟨_, (pss_cons (ps_asg pe_int (pg_name (i := 2) sc_law_pool.nd rfl (by first | exact Or.inl rfl | exact Or.inr rfl)))
    (pss_cons (ps_if (pt_cmpR op_lt (pv 1) (pe_callB call_len (by rfl) T.b_len PySem.boot_len (pa_cons (pv 0) pa_nil)) (nomark _)) (pss_one (ps_asg (pe_ix ix_list (pv 0) (pv 1) (fun _ _ => rfl)) (pg_name (i := 2) sc_law_pool.nd rfl (by first | exact Or.inl rfl | exact Or.inr rfl)))) pss_nil)
    (pss_cons (ps_asg (pe_op op_mod (pe_op op_pow (pe_op op_add (pe_op op_add (pe_op op_mod (pv 2) pe_int) (pe_op op_mul (pe_op op_mul pe_int (pv 1)) (pv 1))) pe_int) pe_int) pe_int) (pg_name (i := 3) sc_law_pool.nd rfl (by first | exact Or.inl rfl | exact Or.inr rfl)))
    (pss_cons (ps_if (pt_cmpR op_lt (pv 2) (pe_op op_pow pe_int pe_int) (nomark _)) (pss_one (ps_asg pe_int (pg_name (i := 2) sc_law_pool.nd rfl (by first | exact Or.inl rfl | exact Or.inr rfl)))) pss_nil)
    (pss_one (ps_ret (pe_lst (pa_cons (pv 2) (pa_cons (pv 3) pa_nil))))))))), ?_⟩
  refine c_asg (c_c ?_)
  show tSeq _ _ _ _ _
  simp only [L2.start, List.map_cons, List.map_nil, List.length_cons, List.length_nil, List.replicate_succ, List.replicate_zero, List.cons_append, List.nil_append, List.set_cons_zero, List.set_cons_succ, Nat.reduceAdd, Nat.reduceSub]
  have after : ∀ (c : Int) (H1 : Hp), Ex H H1 → ∀ tz : TS, (∀ H2, Ex H1 H2 → tz { nx := fun _ H' => Q .non H', rt := Q } [some v, some (.int (k : Int)), some (.int c), none] H2) → tz { nx := fun _ H' => Q .non H', rt := Q } [some v, some (.int (k : Int)), some (.int c), none] H1 := fun c H1 e tz h => h H1 (Evl.Ex.refl H1)
  have rest : ∀ (c : Int) (H1 : Hp), Ex H H1 → tSeq (tAsg (tOp (rI (fun _ j => 0 < j) fun i j => .int (i % j)) (tOp (rI CPow fun i j => .int (i ^ j.toNat)) (tOp (rI0 fun i j => .int (i + j)) (tOp (rI0 fun i j => .int (i + j)) (tOp (rI (fun _ j => 0 < j) fun i j => .int (i % j)) (tVar 2) (tC (.int 2147483629))) (tOp (rI CMul fun i j => .int (i * j)) (tOp (rI CMul fun i j => .int (i * j)) (tC (.int 104729)) (tVar 1)) (tVar 1))) (tC (.int 17))) (tC (.int 3))) (tC (.int 2147483647))) (gName 3))
      (tSeq (tIfS (tTest (tOp (rI0 fun i j => .bl (decide (i < j))) (tVar 2) (tOp (rI CPow fun i j => .int (i ^ j.toNat)) (tC (.int 10)) (tC (.int 18))))) (tAsg (tC (.int 0)) (gName 2)) tNext) (tRet (tLst (tCons (tVar 2) (tCons (tVar 3) tNil)))))
      { nx := fun _ H' => Q .non H', rt := Q } [some v, some (.int (k : Int)), some (.int c), none] H1 := fun c H1 e1 => by
    have b1 : 0 ≤ c % 2147483629 := Int.emod_nonneg _ (by decide)
    have b2 : c % 2147483629 < 2147483629 := Int.emod_lt_of_pos _ (by decide)
    have b3 : 0 ≤ 104729 * (k : Int) * (k : Int) := Int.mul_nonneg (Int.mul_nonneg (by decide) (by omega)) (by omega)
    have b4 : 104729 * (k : Int) * (k : Int) ≤ 104729 * 1000 * 1000 := by
      have : (k : Int) * (k : Int) ≤ 1000 * 1000 := Int.mul_le_mul (by omega) (by omega) (by omega) (by decide)
      rw [Int.mul_assoc]
      omega
    generalize hq : 104729 * (k : Int) * (k : Int) = kk at *
    have hb : 0 ≤ c % 2147483629 + kk + 17 ∧ c % 2147483629 + kk + 17 < 3000000000000 := ⟨by omega, by omega⟩
    generalize hbb : c % 2147483629 + kk + 17 = b at *
    have hc3 : CPow b 3 := ⟨by decide, by decide, Nat.lt_trans (show b.natAbs < 3000000000000 by omega) (by decide)⟩
    refine q_asgD (K := K) (d := .int (b ^ 3 % 2147483647)) (evd_op (evd_op (z := .int (b ^ 3)) (evd_op (z := .int b) (evd_op (z := .int (c % 2147483629 + kk)) (evd_op (z := .int (c % 2147483629)) (evd_var (i := 2) (.int _) (by rfl)) evd_int (rd_I (by decide) fun H => .int _)) (evd_op (z := .int kk) (evd_op (z := .int (104729 * (k : Int))) evd_int (evd_var (i := 1) (.int _) (by rfl)) (rd_I (by left; omega) fun H => .int _)) (evd_var (i := 1) (.int _) (by rfl)) (rd_I (by right; omega) fun H => by rw [hq]; exact .int _)) (rd_I0 fun H => .int _)) evd_int (rd_I0 fun H => by rw [hbb]; exact .int _)) evd_int
      (rd_I hc3 fun H => .int _)) evd_int (rd_I (by decide) fun H => .int _)) fun vs H2 e2 d2 => ?_
    rw [dp_int d2]
    simp only [L2.start, List.map_cons, List.map_nil, List.length_cons, List.length_nil, List.replicate_succ, List.replicate_zero, List.cons_append, List.nil_append, List.set_cons_zero, List.set_cons_succ, Nat.reduceAdd, Nat.reduceSub]
    have hc10 : CPow 10 18 := ⟨by decide, by decide, by decide⟩
    have s1 : 0 ≤ b ^ 3 % 2147483647 := Int.emod_nonneg _ (by decide)
    have s2 : b ^ 3 % 2147483647 < 2147483647 := Int.emod_lt_of_pos _ (by decide)
    generalize b ^ 3 % 2147483647 = sd at *
    have fin : ∀ (c2 : Int) (H3 : Hp), Ex H2 H3 → tRet (tLst (tCons (tVar 2) (tCons (tVar 3) tNil))) { nx := fun _ H' => Q .non H', rt := Q } [some v, some (.int (k : Int)), some (.int c2), some (.int sd)] H3 := fun c2 H3 e3 =>
      c_ret (c_lst (c_cons (c_var (i := 2) (c_cons (c_var (i := 3) (c_nil ⟨Evl.sz_of (show 2 ≤ 100000 by decide), fun p hp => q p _ (Evl.fresh_back ((e1.trans e2).trans e3) hp) (((e1.trans e2).trans e3).trans (Evl.Ex.new hp)) ⟨c2, sd, upd_same, s1, s2⟩⟩) (by rfl))) (by rfl))))
    refine Evl.q_when (b := decide (c < 10 ^ 18)) (et_t (K := K) (evd_op (evd_var (i := 2) (.int _) (by rfl)) (evd_op (z := .int (10 ^ 18)) evd_int evd_int (rd_I hc10 fun H => .int _)) (rd_I0 fun H => .bl _))) (fun _ H3 e3 => ?_) fun _ H3 e3 => fin c H3 e3
    exact c_asg1 (c_c (fin 0 H3 e3))
  have hl : EvD K (tCB (fun xs H Q => ∃ x n, xs = [x] ∧ LenV K x H n ∧ Q (.int n) H) (tCons (tVar 0) tNil)) [some v, some (.int (k : Int)), some (.int 0), none] H (.int (ns.length : Int)) := (evd_lenL (evd_var (i := 0) hd (by rfl))).to (by rw [List.length_map])
  refine Evl.q_when (b := decide ((k : Int) < (ns.length : Int))) (et_t (K := K) (evd_op (evd_var (i := 1) (.int _) (by rfl)) hl (rd_I0 fun H => .bl _))) (fun c1 H1 e1 => ?_) fun c1 H1 e1 => rest 0 H1 e1
  have c1 := of_decide_eq_true c1
  obtain ⟨n, hn⟩ : ∃ n, ns[k]? = some n := ⟨ns[k]'(by omega), List.getElem?_eq_getElem (by omega)⟩
  refine c_asg1 (c_d (K := K) (evd_op (evd_var (i := 0) (dp_ex e1 hd) (by rfl)) (evd_var (i := 1) (.int (k : Int)) (by rfl)) (rd_ixL (d := .int n) (atI_nat (by rw [List.getElem?_map, hn]; rfl)))) fun vn H2 e2 d2 => ?_)
  rw [dp_int d2]
  exact rest n H2 (e1.trans e2)
end
end Wn

set_option Elab.async false
set_option linter.all false
set_option maxRecDepth 100000
set_option maxHeartbeats 4000000
/-! a digit of the law's pool. -/
namespace Wn
open PySem PySem.Spec PyProof.Rows L2
open Zab hiding World Place Row
section
variable {P : Program} {w : World} {K : PySem.W.Frag} {mg : Str → Option Value} {base : Heap}
theorem PoolAt.ex {H H' : Hp} {p : Addr} (e : Ex H H') (h : PoolAt H p) : PoolAt H' p := by
  obtain ⟨c, s, h1, h2⟩ := h
  exact ⟨c, s, e _ _ h1, h2⟩
/-- the pool has moved on, all else is as it was -/
def Tick (H : Hp) (p : Addr) (H' : Hp) : Prop := PoolAt H' p ∧ ∀ a o, a ≠ p → H a = some o → H' a = some o
def spDigit : Sp := fun vs H Q _ => ∃ (p : Addr) (m : Nat), vs = [.ref p, .int (m : Int)] ∧ PoolAt H p ∧ 1 ≤ m ∧ m ≤ 1000000000 ∧ ∀ (d : Nat) H', d < m → Tick H p H' → Q (.int (d : Int)) H'
theorem sc_law_take : FnScope ["_law_pool_here", "_law_many", "_law_digit"] ["_law_pool_here", "_law_many"] (defScope s_law_take) := ⟨rfl, rfl, rfl, by decide +kernel, rfl, by decide +kernel, by decide +kernel⟩
theorem ok_law_take (T : TX w K mg) : Cal P w K mg base 1 (He.ga K "_law_take") ["_law_pool_here", "_law_many"] spDigit [] := by
  refine cal_mk T 26 (d := d_law_take) rfl rfl rfl sc_law_take (fun vs H Q E z => by obtain ⟨p, m, z, _⟩ := z; rw [z]; rfl) (fun _ _ _ _ _ _ us hl => match us, hl with | [_, _], _ => rfl) fun cdv A outer s H vs Q E hr z => ?_
  obtain ⟨p, m, rfl, ⟨c, s, hp, s0, s1⟩, m1, m2, q⟩ := z
  refine ⟨_, (pss_cons (ps_if (pt_cmpR op_gt (pe_ix ix_list (pv 0) pe_int (fun _ _ => rfl)) pe_int (nomark _)) (pss_cons (ps_asg (pe_op op_mod (pe_ix ix_list (pv 0) pe_int (fun _ _ => rfl)) (pv 1)) (pg_name (i := 2) sc_law_take.nd rfl (by first | exact Or.inl rfl | exact Or.inr rfl)))
    (pss_cons (ps_asg (pe_op op_fdiv (pe_ix ix_list (pv 0) pe_int (fun _ _ => rfl)) (pv 1)) (pg_sub (pv 0) pe_int set_list))
    (pss_one (ps_ret (pv 2))))) pss_nil)
    (pss_cons (ps_asg (pe_op op_mod (pe_op op_add (pe_op op_mul (pe_ix ix_list (pv 0) pe_int (fun _ _ => rfl)) pe_int) pe_int) pe_int) (pg_sub (pv 0) pe_int set_list))
    (pss_one (ps_ret (pe_op op_mod (pe_op op_fdiv (pe_op op_mod (pe_op op_mul (pe_ix ix_list (pv 0) pe_int (fun _ _ => rfl)) (pe_ix ix_list (pv 0) pe_int (fun _ _ => rfl))) pe_int) pe_int) (pv 1)))))), ?_⟩
  show tSeq _ _ _ _ _
  simp only [L2.start, List.map_cons, List.map_nil, List.length_cons, List.length_nil, List.replicate_succ, List.replicate_zero, List.cons_append, List.nil_append, List.set_cons_zero, List.set_cons_succ, Nat.reduceAdd, Nat.reduceSub]
  have i0 : ∀ {c s : Int} {H : Hp} {x : Option V}, H p = some (.lst [.int c, .int s]) → EvD K (tOp (rIxL K) (tVar 0) (tC (.int 0))) [some (.ref p), some (.int (m : Int)), x] H (.int c) := fun {c s H x} h =>
    evd_op (x := .list [.int c, .int s]) (evd_var (i := 0) (.lst (SqL.of h) (.cons (.int c) (.cons (.int s) .nil))) (by rfl)) evd_int (rd_ixL (d := .int c) rfl)
  have i1 : ∀ {c s : Int} {H : Hp} {x : Option V}, H p = some (.lst [.int c, .int s]) → EvD K (tOp (rIxL K) (tVar 0) (tC (.int 1))) [some (.ref p), some (.int (m : Int)), x] H (.int s) := fun {c s H x} h =>
    evd_op (x := .list [.int c, .int s]) (evd_var (i := 0) (.lst (SqL.of h) (.cons (.int c) (.cons (.int s) .nil))) (by rfl)) evd_int (rd_ixL (d := .int s) rfl)
  have ev : ∀ {te : TE} {i : Int} {σ : L2.St} {H : Hp}, EvD K te σ H (.int i) → Evl.Ev te σ H (.int i) := fun {te i σ H} h H1 e1 Q q => h H1 e1 Q fun v H2 e2 hv => by rw [dp_int hv]; exact q H2 e2
  refine Evl.q_when (b := decide (0 < c)) (et_t (K := K) (evd_op (i0 hp) evd_int (rd_I0 fun H => .bl _))) (fun _ H1 e1 => ?_) fun _ H1 e1 => ?_
  · refine q_asgD (K := K) (d := .int (c % (m : Int))) (evd_op (i0 (e1 p _ hp)) (evd_var (i := 1) (.int _) (by rfl)) (rd_I (by show (0 : Int) < (m : Int); omega) fun H => .int _)) fun vd H2 e2 d2 => ?_
    rw [dp_int d2]
    simp only [L2.start, List.map_cons, List.map_nil, List.length_cons, List.length_nil, List.replicate_succ, List.replicate_zero, List.cons_append, List.nil_append, List.set_cons_zero, List.set_cons_succ, Nat.reduceAdd, Nat.reduceSub]
    have b1 : 0 ≤ c % (m : Int) := Int.emod_nonneg _ (by omega)
    have b2 : c % (m : Int) < (m : Int) := Int.emod_lt_of_pos _ (by omega)
    obtain ⟨dn, hdn⟩ : ∃ dn : Nat, c % (m : Int) = (dn : Int) := ⟨(c % (m : Int)).toNat, by omega⟩
    rw [hdn]
    have hp2 := e2 p _ (e1 p _ hp)
    refine Evl.q_setL (l := p) (j := 0) (v := .int (c / (m : Int))) hp2 (ev (evd_op (i0 hp2) (evd_var (i := 1) (.int _) (by rfl)) (rd_I (by show (0 : Int) < (m : Int) ∧ (m : Int) < 1073741824; omega) fun H => .int _))) (Evl.ev_var (by rfl)) Evl.ev_c (by show 0 < 2; decide) fun H3 e3 => ?_
    refine Evl.s_ret (v := .int (dn : Int)) (Evl.ev_var (by rfl)) fun H4 e4 => q dn H4 (by omega) ⟨⟨c / (m : Int), s, e4 _ _ upd_same, s0, s1⟩, fun a o ha ho => e4 a o ?_⟩
    rw [upd_ne ha]
    exact e3 a o (e2 a o (e1 a o ho))
  · have b1 : 0 ≤ (s * 48271 + 11) % 2147483647 := Int.emod_nonneg _ (by decide)
    have b2 : (s * 48271 + 11) % 2147483647 < 2147483647 := Int.emod_lt_of_pos _ (by decide)
    have hp1 := e1 p _ hp
    refine Evl.q_setL (l := p) (j := 1) (v := .int ((s * 48271 + 11) % 2147483647)) hp1 (ev (evd_op (z := .int ((s * 48271 + 11) % 2147483647)) (evd_op (z := .int (s * 48271 + 11)) (evd_op (z := .int (s * 48271)) (i1 hp1) evd_int (rd_I (by right; decide) fun H => .int _)) evd_int (rd_I0 fun H => .int _)) evd_int (rd_I (by decide) fun H => .int _))) (Evl.ev_var (by rfl)) Evl.ev_c (by show 1 < 2; decide) fun H2 e2 => ?_
    generalize (s * 48271 + 11) % 2147483647 = t at *
    have hp3 : upd H2 p (.lst ([V.int c, .int s].set 1 (.int t))) p = some (.lst [.int c, .int t]) := upd_same
    have hc : CMul t t := by
      left
      constructor
      · exact Int.lt_of_lt_of_le (by decide) b1
      · exact Int.lt_trans b2 (by decide)
    have g1 : 0 ≤ t * t % 2147483629 / 64 % (m : Int) := Int.emod_nonneg _ (by omega)
    have g2 : t * t % 2147483629 / 64 % (m : Int) < (m : Int) := Int.emod_lt_of_pos _ (by omega)
    obtain ⟨dn, hdn⟩ : ∃ dn : Nat, t * t % 2147483629 / 64 % (m : Int) = (dn : Int) := ⟨(t * t % 2147483629 / 64 % (m : Int)).toNat, by omega⟩
    refine s_retD (K := K) (d := .int (dn : Int)) (evd_op (evd_op (z := .int (t * t % 2147483629 / 64)) (evd_op (z := .int (t * t % 2147483629)) (evd_op (z := .int (t * t)) (i1 hp3) (i1 hp3) (rd_I hc fun H => .int _)) evd_int (rd_I (by decide) fun H => .int _)) evd_int (rd_I (by show (0 : Int) < 64 ∧ (64 : Int) < 1073741824; decide) fun H => .int _)) (evd_var (i := 1) (.int _) (by rfl)) (rd_I (by show (0 : Int) < (m : Int); omega) fun H => by rw [hdn]; exact .int _)) fun vd H4 e4 d4 => ?_
    rw [dp_int d4]
    refine q dn H4 (by omega) ⟨⟨c, t, e4 _ _ hp3, b1, b2⟩, fun a o ha ho => e4 a o ?_⟩
    rw [upd_ne ha]
    exact e2 a o (e1 a o ho)
end
end Wn

set_option Elab.async false
set_option linter.all false
set_option maxRecDepth 100000
set_option maxHeartbeats 4000000
/-! what the walk asks of a house and of a letter, from the world's invariant. -/
namespace Wn
open PySem PySem.Spec PyProof.Rows L2
open Zab hiding World Place Row
section
variable {M : List Nat} {D st : Nat} {w : Zab.World}
theorem dic_len {d : Dic} (h : DSz M D d) : d.length ≤ M.length := by
  have h1 : (keys d).length ≤ M.length := length_le_of_sub h.nd (fun k hk => by
    obtain ⟨a, b, rfl⟩ := List.mem_map.mp hk
    exact (h.mem a b).1)
  simpa [keys] using h1
theorem hsz_wh {h : House} (z : HSz M D h) (f : h.fresh ≤ 1000 * D) (hM : M.length ≤ 5) (hD : D ≤ 500) : WH h where
  row := Nat.le_trans z.row.1 (by omega)
  ent := fun t ht => (z.row.2 t ht).2.1
  fresh := by omega
  prom := Nat.le_trans (dic_len z.prs) (by omega)
  tak := Nat.le_trans (dic_len z.tks) (by omega)
  mem := by rw [z.mem]; omega
theorem hsz_pre {h : House} (z : HSz M D h) (f : h.fresh ≤ 1000 * D) (hM : M.length ≤ 5) (hD : D ≤ 500) : PreT h where
  row := Nat.le_trans z.row.1 (by omega)
  fresh := by omega
  prom := Nat.le_trans (dic_len z.prs) (by omega)
  tak := Nat.le_trans (dic_len z.tks) (by omega)
theorem lsz_ok {l : Letter} (z : LSz M D l) (nm : ∀ x ∈ M, NmOk x) (hD : D ≤ 500) : LOk l where
  src := nm _ z.src
  dst := nm _ z.dst
  ne := z.ne
  body := by
    obtain ⟨src, dst, e, body⟩ := l
    have b := z.body
    cases body with
    | sync way base things dn => exact ⟨Nat.le_trans b.2.2.2.1.1 (by omega), fun t ht => (b.2.2.2.1.2 t ht).2.1, b.2.2.2.2.1, b.2.2.2.2.2⟩
    | propose prior place en => exact ⟨b.2.2.1, b.2.2.2.1⟩
    | _ => trivial
theorem lsz_take {h : House} {l : Letter} (z : LSz M D l) (zh : HSz M D h) (f : h.fresh ≤ 1000 * D) (hn : h.nm = l.dst) (nm : ∀ x ∈ M, NmOk x) (hM : M.length ≤ 5) (hD : D ≤ 500) : TakeOk h l where
  pre := hsz_pre zh f hM hD
  ok := lsz_ok z nm hD
  dst := hn.symm
  src := by rw [zh.mem]; exact z.src
  len := by
    obtain ⟨src, dst, e, body⟩ := l
    have b := z.body
    cases body with
    | sync way base things dn => exact Nat.le_trans b.2.2.2.1.1 (by omega)
    | _ => trivial
end
end Wn

set_option Elab.async false
set_option linter.all false
set_option maxRecDepth 100000
set_option maxHeartbeats 4000000
/-! the houses of a scene, side by side in one heap. -/
namespace Wn
open PySem PySem.Spec PyProof.Rows L2
open Zab hiding World Place Row
section
variable {K : PySem.W.Frag} {H H' : Hp} {x x' y : HX} {h h' : House} {M : List Nat}
/-- a house stands where nothing of its own and nothing locked changes -/
theorem HAt.keep (i : HAt K H x h) (tu : Tups H H') (fr : Frz H H') (k : ∀ b o, H b = some o → Own x b → H' b = some o) : HAt K H' x h :=
  ⟨k _ _ i.ob (.inl rfl), i.r.stay tu fr (fun b o hb ow _ => k b o hb ow) i.np⟩
/-- another house's change leaves this one as it stands -/
theorem HAt.beside (i : HAt K H y h') (j : HAt K H x h) (t : To x H x' H') (d : ∀ b, Own y b → ¬ Own x b) : HAt K H' y h' :=
  i.keep (t.tups j) (t.frz j) fun b o hb ow => t.keep b o hb (d b ow)
/-- the houses of M, apart from one another -/
structure Hs (K : PySem.W.Frag) (H : Hp) (M : List Nat) (xs : Nat → HX) (hs : Nat → House) : Prop where
  at_ : ∀ n ∈ M, HAt K H (xs n) (hs n)
  dis : ∀ n ∈ M, ∀ m ∈ M, n ≠ m → ∀ b, Own (xs n) b → ¬ Own (xs m) b
/-- no house's own -/
def NoOwn (M : List Nat) (xs : Nat → HX) (b : Addr) : Prop := ∀ n ∈ M, ¬ Own (xs n) b
def putX (xs : Nat → HX) (n : Nat) (x : HX) : Nat → HX := fun m => if m = n then x else xs m
variable {xs : Nat → HX} {hs : Nat → House}
theorem Hs.keep (s : Hs K H M xs hs) (tu : Tups H H') (fr : Frz H H') (k : ∀ b o, H b = some o → ¬ NoOwn M xs b → H' b = some o) : Hs K H' M xs hs :=
  ⟨fun n hn => (s.at_ n hn).keep tu fr fun b o hb ow => k b o hb fun z => z n hn ow, s.dis⟩
theorem Hs.ex (s : Hs K H M xs hs) (e : Ex H H') : Hs K H' M xs hs := ⟨fun n hn => (s.at_ n hn).ex e, s.dis⟩
/-- a list that is no house's own is written -/
theorem Hs.far (s : Hs K H M xs hs) {l : Addr} {us vs : List V} (hl : H l = some (.lst us)) (no : NoOwn M xs l) : Hs K (L2.upd H l (.lst vs)) M xs hs :=
  ⟨fun n hn => (s.at_ n hn).far hl (no n hn), s.dis⟩
/-- one house of M changes -/
theorem Hs.to (s : Hs K H M xs hs) {n : Nat} (hn : n ∈ M) (t : To (xs n) H x' H') (i : HAt K H' x' h') : Hs K H' M (putX xs n x') (set1 hs n h') := by
  have own : ∀ b, Own x' b → Own (xs n) b ∨ H b = none := t.own
  constructor
  · intro m hm
    by_cases c : m = n
    · subst c
      show HAt K H' (if m = m then x' else xs m) (set1 hs m h' m)
      rw [if_pos rfl]
      have : set1 hs m h' m = h' := by simp [set1]
      rw [this]; exact i
    · show HAt K H' (if m = n then x' else xs m) (set1 hs n h' m)
      rw [if_neg c]
      have : set1 hs n h' m = hs m := by simp [set1, c]
      rw [this]
      exact (s.at_ m hm).beside (s.at_ n hn) t (s.dis m hm n hn c)
  · intro a ha m hm am b hb hb2
    have key : ∀ c, c ∈ M → c ≠ n → ∀ b, Own (xs c) b → ¬ Own x' b := fun c hc cn b oc ox => by
      rcases own b ox with z | z
      · exact s.dis c hc n hn cn b oc z
      · exact (s.at_ c hc).new z oc
    by_cases c1 : a = n
    · by_cases c2 : m = n
      · exact am (c1.trans c2.symm)
      · have e1 : putX xs n x' a = x' := if_pos c1
        have e2 : putX xs n x' m = xs m := if_neg c2
        rw [e1] at hb; rw [e2] at hb2
        exact key m hm c2 b hb2 hb
    · have e1 : putX xs n x' a = xs a := if_neg c1
      rw [e1] at hb
      by_cases c2 : m = n
      · have e2 : putX xs n x' m = x' := if_pos c2
        rw [e2] at hb2
        exact key a ha c1 b hb hb2
      · have e2 : putX xs n x' m = xs m := if_neg c2
        rw [e2] at hb2
        exact s.dis a ha m hm am b hb hb2
/-- what is no house's own stays so -/
theorem NoOwn.to (no : NoOwn M xs b) {n : Nat} (hn : n ∈ M) (t : To (xs n) H x' H') {o : HO} (hb : H b = some o) : NoOwn M (putX xs n x') b := fun m hm ow => by
  by_cases c : m = n
  · have e : putX xs n x' m = x' := if_pos c
    rw [e] at ow
    rcases t.own b ow with z | z
    · exact no n hn z
    · rw [hb] at z; cases z
  · have e : putX xs n x' m = xs m := if_neg c
    rw [e] at ow
    exact no m hm ow
end
end Wn

set_option Elab.async false
set_option linter.all false
set_option maxRecDepth 100000
set_option maxHeartbeats 4000000
/-! the scene in a heap: what stands where, how it may change. -/
namespace Wn
open PySem PySem.Spec PyProof.Rows L2
open Zab hiding World Place Row
/-- where a scene's parts lie; p: the pool, ll: the list of the longest row -/
structure SA where
  sc : Addr
  mt : Addr
  hd : Addr
  po : Addr
  kn : Addr
  p : Addr
  ll : Addr
  lr : Addr
def scK (a : SA) (rd st : Nat) : List (Key × V) := [(Sum.inr "members", .ref a.mt), (Sum.inr "houses", .ref a.hd), (Sum.inr "post", .ref a.po), (Sum.inr "known", .ref a.kn), (Sum.inr "read", .int (rd : Int)), (Sum.inr "stamp", .int (st : Int))]
def names (L : List Nat) : List V := L.map fun n => V.str (nS n)
def hdK (L : List Nat) (xs : Nat → HX) : List (Key × V) := L.map fun n => (Sum.inr (nS n), V.ref (xs n).p)
/-- F: what stands beside the scene -/
structure Sc (K : PySem.W.Frag) (F H : Hp) (a : SA) (L : List Nat) (xs : Nat → HX) (w : Zab.World) (rd st : Nat) : Prop where
  ex : Ex F H
  sc : H a.sc = some (.dK (scK a rd st))
  mt : SqT K H a.mt (names L)
  hd : H a.hd = some (.dK (hdK L xs))
  po : LstAt K H a.po (w.post.map dL)
  kn : ∃ ks : List (Key × V), H a.kn = some (.dK ks) ∧ ks.length ≤ w.post.length
  pl : PoolAt H a.p
  ll : H a.ll = some (.lst [.ref a.lr])
  lr : LstAt K H a.lr (w.long.map dT)
  hs : Hs K H L xs w.hs
  f : F a.sc = none ∧ F a.po = none ∧ F a.kn = none ∧ F a.p = none ∧ F a.ll = none
  fo : ∀ n ∈ L, ∀ b, Own (xs n) b → F b = none
  no : ∀ b ∈ [a.sc, a.hd, a.po, a.kn, a.p, a.ll, a.lr], NoOwn L xs b
  nd : [a.sc, a.hd, a.po, a.kn, a.p, a.ll, a.lr].Nodup
/-- all but q stands -/
def But (q : Addr) (H H' : Hp) : Prop := ∀ b o, b ≠ q → H b = some o → H' b = some o
theorem But.upd {q : Addr} {H : Hp} {o : HO} : But q H (L2.upd H q o) := fun b u n h => by rw [upd_ne n]; exact h
theorem But.ex {q : Addr} {H H' : Hp} (e : Ex H H') : But q H H' := fun b o _ h => e b o h
theorem But.trans {q : Addr} {H H' H'' : Hp} (a : But q H H') (b : But q H' H'') : But q H H'' := fun c o n h => b c o n (a c o n h)
theorem But.tups {q : Addr} {H H' : Hp} (f : But q H H') (nt : ∀ us, H q ≠ some (.tup us)) : Tups H H' := fun b us h => f b _ (fun z => nt us (by rw [← z]; exact h)) h
theorem But.frz {q : Addr} {H H' : Hp} (f : But q H H') (nf : ∀ o u, H q ≠ some (.frz o u)) : Frz H H' := fun b o u h => f b _ (fun z => nf o u (by rw [← z]; exact h)) h
theorem LstAt.keep {K : PySem.W.Frag} {H H' : Hp} {p : Addr} {ds : List PyData} (l : LstAt K H p ds) (tu : Tups H H') (fr : Frz H H') (hi : ∀ d ∈ ds, Imm d) (k : ∀ o, H p = some o → H' p = some o) : LstAt K H' p ds := by
  obtain ⟨vs, a, b⟩ := l
  exact ⟨vs, k _ a, dpA_keep tu fr hi b⟩
section
variable {K : PySem.W.Frag} {F H H' : Hp} {a : SA} {L : List Nat} {xs : Nat → HX} {w : Zab.World} {rd st : Nat}
theorem nd7 {a b c d e f g : Addr} : [a, b, c, d, e, f, g].Nodup ↔ (a ≠ b ∧ a ≠ c ∧ a ≠ d ∧ a ≠ e ∧ a ≠ f ∧ a ≠ g) ∧ (b ≠ c ∧ b ≠ d ∧ b ≠ e ∧ b ≠ f ∧ b ≠ g) ∧ (c ≠ d ∧ c ≠ e ∧ c ≠ f ∧ c ≠ g) ∧ (d ≠ e ∧ d ≠ f ∧ d ≠ g) ∧ (e ≠ f ∧ e ≠ g) ∧ f ≠ g := by
  simp only [List.nodup_cons, List.mem_cons, List.not_mem_nil, not_or, or_false, not_false_eq_true, and_true, List.nodup_nil, ne_eq]
theorem imm_post (l : List Letter) : ∀ d ∈ l.map dL, Imm d := imm_map imm_dL l
theorem imm_long (r : Row) : ∀ d ∈ r.map dT, Imm d := imm_map imm_dT r
theorem Hs.but (s : Hs K H L xs w.hs) {q : Addr} (f : But q H H') (no : NoOwn L xs q) (tu : Tups H H') (fr : Frz H H') : Hs K H' L xs w.hs :=
  s.keep tu fr fun b o hb n => f b o (fun z => n (by rw [z]; exact no)) hb
theorem Sc.exn (s : Sc K F H a L xs w rd st) (e : Ex H H') : Sc K F H' a L xs w rd st :=
  ⟨s.ex.trans e, e _ _ s.sc, Evl.ex_t e s.mt, e _ _ s.hd, s.po.ex e, (by obtain ⟨ks, h1, h2⟩ := s.kn; exact ⟨ks, e _ _ h1, h2⟩), s.pl.ex e, e _ _ s.ll, s.lr.ex e, s.hs.ex e, s.f, s.fo, s.no, s.nd⟩
/-- the pool moves on -/
theorem Sc.tick (s : Sc K F H a L xs w rd st) (t : Tick H a.p H') : Sc K F H' a L xs w rd st := by
  obtain ⟨c, sd, hp, _⟩ := s.pl
  obtain ⟨⟨n1, n2, n3, n4, n5, n6⟩, ⟨n7, n8, n9, n10, n11⟩, ⟨n12, n13, n14, n15⟩, ⟨n16, n17, n18⟩, ⟨n19, n20⟩, n21⟩ := nd7.mp s.nd
  have f : But a.p H H' := fun b o n h => t.2 b o n h
  have tu := f.tups (by intro us z; rw [hp] at z; cases z)
  have fr := f.frz (by intro o u z; rw [hp] at z; cases z)
  exact ⟨fun b o h => f b o (fun z => by rw [z, s.f.2.2.2.1] at h; cases h) (s.ex b o h), f _ _ n4 s.sc, sqT_keep tu fr s.mt, f _ _ n9 s.hd, s.po.keep tu fr (imm_post _) fun o h => f _ _ n13 h,
    (by obtain ⟨ks, h1, h2⟩ := s.kn; exact ⟨ks, f _ _ n16 h1, h2⟩), t.1, f _ _ n19.symm s.ll, s.lr.keep tu fr (imm_long _) fun o h => f _ _ n20.symm h, s.hs.but f (s.no _ (by simp)) tu fr, s.f, s.fo, s.no, s.nd⟩
/-- the scene's dict -/
theorem Sc.put (s : Sc K F H a L xs w rd st) {rd' st' : Nat} : Sc K F (L2.upd H a.sc (.dK (scK a rd' st'))) a L xs w rd' st' := by
  obtain ⟨⟨n1, n2, n3, n4, n5, n6⟩, ⟨n7, n8, n9, n10, n11⟩, ⟨n12, n13, n14, n15⟩, ⟨n16, n17, n18⟩, ⟨n19, n20⟩, n21⟩ := nd7.mp s.nd
  have f : But a.sc H (L2.upd H a.sc (.dK (scK a rd' st'))) := .upd
  have tu := f.tups (by intro us z; rw [s.sc] at z; cases z)
  have fr := f.frz (by intro o u z; rw [s.sc] at z; cases z)
  exact ⟨fun b o h => f b o (fun z => by rw [z, s.f.1] at h; cases h) (s.ex b o h), upd_same, sqT_keep tu fr s.mt, f _ _ n1.symm s.hd, s.po.keep tu fr (imm_post _) fun o h => f _ _ n2.symm h,
    (by obtain ⟨ks, h1, h2⟩ := s.kn; exact ⟨ks, f _ _ n3.symm h1, h2⟩), (by obtain ⟨c, sd, h1, h2⟩ := s.pl; exact ⟨c, sd, f _ _ n4.symm h1, h2⟩), f _ _ n5.symm s.ll, s.lr.keep tu fr (imm_long _) fun o h => f _ _ n6.symm h, s.hs.but f (s.no _ (by simp)) tu fr, s.f, s.fo, s.no, s.nd⟩
/-- a letter is known -/
theorem Sc.know (s : Sc K F H a L xs w rd st) {ks : List (Key × V)} {l : Letter} {vs : List V} {v : V} (hk : ks.length ≤ w.post.length + 1) (hv : H a.po = some (.lst vs)) (hd : Dp K H v (dL l)) :
    Sc K F (L2.upd (L2.upd H a.kn (.dK ks)) a.po (.lst (vs ++ [v]))) a L xs { w with post := w.post ++ [l] } rd st := by
  obtain ⟨⟨n1, n2, n3, n4, n5, n6⟩, ⟨n7, n8, n9, n10, n11⟩, ⟨n12, n13, n14, n15⟩, ⟨n16, n17, n18⟩, ⟨n19, n20⟩, n21⟩ := nd7.mp s.nd
  obtain ⟨ks0, k1, k2⟩ := s.kn
  have f1 : But a.kn H (L2.upd H a.kn (.dK ks)) := .upd
  have tu1 := f1.tups (by intro us z; rw [k1] at z; cases z)
  have fr1 := f1.frz (by intro o u z; rw [k1] at z; cases z)
  have hv1 := f1 _ _ n12 hv
  have f2 : But a.po (L2.upd H a.kn (.dK ks)) (L2.upd (L2.upd H a.kn (.dK ks)) a.po (.lst (vs ++ [v]))) := .upd
  have tu2 := f2.tups (by intro us z; rw [hv1] at z; cases z)
  have fr2 := f2.frz (by intro o u z; rw [hv1] at z; cases z)
  have tu : Tups H (L2.upd (L2.upd H a.kn (.dK ks)) a.po (.lst (vs ++ [v]))) := fun b us h => tu2 b us (tu1 b us h)
  have fr : Frz H (L2.upd (L2.upd H a.kn (.dK ks)) a.po (.lst (vs ++ [v]))) := fun b o u h => fr2 b o u (fr1 b o u h)
  have f : ∀ b o, b ≠ a.kn → b ≠ a.po → H b = some o → L2.upd (L2.upd H a.kn (.dK ks)) a.po (.lst (vs ++ [v])) b = some o := fun b o c1 c2 h => f2 b o c2 (f1 b o c1 h)
  refine ⟨fun b o h => f b o (fun z => by rw [z, s.f.2.2.1] at h; cases h) (fun z => by rw [z, s.f.2.1] at h; cases h) (s.ex b o h), f _ _ n3 n2 s.sc, sqT_keep tu fr s.mt, f _ _ n8 n7 s.hd, ?_,
    ⟨ks, by rw [upd_ne n12.symm]; exact upd_same, by show ks.length ≤ (w.post ++ [l]).length; rw [List.length_append]; exact hk⟩, (by obtain ⟨c, sd, h1, h2⟩ := s.pl; exact ⟨c, sd, f _ _ n16.symm n13.symm h1, h2⟩), f _ _ n17.symm n14.symm s.ll, s.lr.keep tu fr (imm_long _) fun o h => f _ _ n18.symm n15.symm h,
    s.hs.keep tu fr (fun b o hb n => f b o (fun z => n (by rw [z]; exact s.no _ (by simp))) (fun z => n (by rw [z]; exact s.no _ (by simp))) hb), s.f, s.fo, s.no, s.nd⟩
  show LstAt K _ a.po ((w.post ++ [l]).map dL)
  rw [List.map_append]
  obtain ⟨us, u1, u2⟩ := s.po
  rw [hv] at u1
  cases u1
  exact ⟨_, upd_same, dpA_app (dpA_keep tu fr (imm_post _) u2) (dpA_one (dp_keep tu fr (imm_dL _) hd))⟩
theorem put_p {n : Nat} {x' : HX} (h : x'.p = (xs n).p) : ∀ m, (putX xs n x' m).p = (xs m).p := fun m => by
  by_cases c : m = n
  · have e : putX xs n x' m = x' := if_pos c
    rw [e, h, c]
  · have e : putX xs n x' m = xs m := if_neg c
    rw [e]
/-- one house does a deed -/
theorem Sc.to (s : Sc K F H a L xs w rd st) {n : Nat} (hn : n ∈ L) {x' : HX} {h' : House} (t : To (xs n) H x' H') (i : HAt K H' x' h') : Sc K F H' a L (putX xs n x') { w with hs := set1 w.hs n h' } rd st := by
  have at_n := s.hs.at_ n hn
  have tu := t.tups at_n
  have fr := t.frz at_n
  have k : ∀ b ∈ [a.sc, a.hd, a.po, a.kn, a.p, a.ll, a.lr], ∀ o, H b = some o → H' b = some o := fun b hb o ho => t.keep b o ho (s.no b hb n hn)
  have own : ∀ m ∈ L, ∀ b, Own (putX xs n x' m) b → (∃ m ∈ L, Own (xs m) b) ∨ H b = none := fun m hm b ob => by
    by_cases c : m = n
    · have e : putX xs n x' m = x' := if_pos c
      rw [e] at ob
      exact (t.own b ob).imp (fun z => ⟨n, hn, z⟩) id
    · have e : putX xs n x' m = xs m := if_neg c
      rw [e] at ob
      exact .inl ⟨m, hm, ob⟩
  have hde : hdK L (putX xs n x') = hdK L xs := List.map_congr_left fun m _ => by rw [put_p t.p m]
  have live : ∀ b ∈ [a.sc, a.hd, a.po, a.kn, a.p, a.ll, a.lr], H b ≠ none := by
    intro b hb
    simp only [List.mem_cons, List.not_mem_nil, or_false] at hb
    obtain ⟨ks, k1, _⟩ := s.kn
    obtain ⟨c, sd, p1, _⟩ := s.pl
    obtain ⟨us, u1, _⟩ := s.po
    obtain ⟨vs, v1, _⟩ := s.lr
    rcases hb with rfl | rfl | rfl | rfl | rfl | rfl | rfl
    · rw [s.sc]; intro z; cases z
    · rw [s.hd]; intro z; cases z
    · rw [u1]; intro z; cases z
    · rw [k1]; intro z; cases z
    · rw [p1]; intro z; cases z
    · rw [s.ll]; intro z; cases z
    · rw [v1]; intro z; cases z
  refine ⟨fun b o h => t.keep b o (s.ex b o h) (fun z => by rw [s.fo n hn b z] at h; cases h), k _ (by simp) _ s.sc, sqT_keep tu fr s.mt, ?_, s.po.keep tu fr (imm_post _) (k _ (by simp)),
    (by obtain ⟨ks, h1, h2⟩ := s.kn; exact ⟨ks, k _ (by simp) _ h1, h2⟩), (by obtain ⟨c, sd, h1, h2⟩ := s.pl; exact ⟨c, sd, k _ (by simp) _ h1, h2⟩), k _ (by simp) _ s.ll, s.lr.keep tu fr (imm_long _) (k _ (by simp)), s.hs.to hn t i, s.f, ?_, ?_, s.nd⟩
  · rw [hde]; exact k _ (by simp) _ s.hd
  · intro m hm b ob
    rcases own m hm b ob with ⟨m', hm', z⟩ | z
    · exact s.fo m' hm' b z
    · cases q : F b with
      | none => rfl
      | some o => rw [s.ex b o q] at z; cases z
  · intro b hb m hm ob
    rcases own m hm b ob with ⟨m', hm', z⟩ | z
    · exact s.no b hb m' hm' z
    · exact live b hb z
/-- the longest row is another one: a new list -/
theorem Sc.long (s : Sc K F H a L xs w rd st) {l : Addr} {r : Row} (h : LstAt K H l (r.map dT)) (hn : NoOwn L xs l) (hx : l ∉ [a.sc, a.hd, a.po, a.kn, a.p, a.ll]) : Sc K F (L2.upd H a.ll (.lst [.ref l])) { a with lr := l } L xs { w with long := r } rd st := by
  obtain ⟨⟨n1, n2, n3, n4, n5, n6⟩, ⟨n7, n8, n9, n10, n11⟩, ⟨n12, n13, n14, n15⟩, ⟨n16, n17, n18⟩, ⟨n19, n20⟩, n21⟩ := nd7.mp s.nd
  simp only [List.mem_cons, List.not_mem_nil, or_false, not_or] at hx
  obtain ⟨m1, m2, m3, m4, m5, m6⟩ := hx
  have f : But a.ll H (L2.upd H a.ll (.lst [.ref l])) := .upd
  have tu := f.tups (by intro us z; rw [s.ll] at z; cases z)
  have fr := f.frz (by intro o u z; rw [s.ll] at z; cases z)
  refine ⟨fun b o h => f b o (fun z => by rw [z, s.f.2.2.2.2] at h; cases h) (s.ex b o h), f _ _ n5 s.sc, sqT_keep tu fr s.mt, f _ _ n10 s.hd, s.po.keep tu fr (imm_post _) fun o h => f _ _ n14 h,
    (by obtain ⟨ks, h1, h2⟩ := s.kn; exact ⟨ks, f _ _ n17 h1, h2⟩), (by obtain ⟨c, sd, h1, h2⟩ := s.pl; exact ⟨c, sd, f _ _ n19 h1, h2⟩), upd_same, h.keep tu fr (imm_long _) fun o h => f _ _ m6 h, s.hs.but f (s.no _ (by simp)) tu fr, s.f, s.fo, ?_, ?_⟩
  · intro b hb
    simp only [List.mem_cons, List.not_mem_nil, or_false] at hb
    rcases hb with rfl | rfl | rfl | rfl | rfl | rfl | rfl
    · exact s.no _ (by simp)
    · exact s.no _ (by simp)
    · exact s.no _ (by simp)
    · exact s.no _ (by simp)
    · exact s.no _ (by simp)
    · exact s.no _ (by simp)
    · exact hn
  · exact nd7.mpr ⟨⟨n1, n2, n3, n4, n5, Ne.symm m1⟩, ⟨n7, n8, n9, n10, Ne.symm m2⟩, ⟨n12, n13, n14, Ne.symm m3⟩, ⟨n16, n17, Ne.symm m4⟩, ⟨n19, Ne.symm m5⟩, Ne.symm m6⟩
/-- another pool -/
theorem Sc.pool (s : Sc K F H a L xs w rd st) {p : Addr} (e : Ex H H') (hp : H p = none) (pl : PoolAt H' p) : Sc K F H' { a with p := p } L xs w rd st := by
  obtain ⟨⟨n1, n2, n3, n4, n5, n6⟩, ⟨n7, n8, n9, n10, n11⟩, ⟨n12, n13, n14, n15⟩, ⟨n16, n17, n18⟩, ⟨n19, n20⟩, n21⟩ := nd7.mp s.nd
  have s' := s.exn e
  obtain ⟨ks, k1, _⟩ := s.kn
  obtain ⟨us, u1, _⟩ := s.po
  obtain ⟨vs, v1, _⟩ := s.lr
  have ne : ∀ {b : Addr} {o : HO}, H b = some o → b ≠ p := fun {b o} h z => by rw [z, hp] at h; cases h
  refine ⟨s'.ex, s'.sc, s'.mt, s'.hd, s'.po, s'.kn, pl, s'.ll, s'.lr, s'.hs, ⟨s.f.1, s.f.2.1, s.f.2.2.1, ?_, s.f.2.2.2.2⟩, s.fo, ?_, nd7.mpr ⟨⟨n1, n2, n3, ne s.sc, n5, n6⟩, ⟨n7, n8, ne s.hd, n10, n11⟩, ⟨n12, ne u1, n14, n15⟩, ⟨ne k1, n17, n18⟩, ⟨(ne s.ll).symm, (ne v1).symm⟩, n21⟩⟩
  · cases q : F p with
    | none => rfl
    | some o => rw [s.ex _ _ q] at hp; cases hp
  · intro b hb
    simp only [List.mem_cons, List.not_mem_nil, or_false] at hb
    rcases hb with rfl | rfl | rfl | rfl | rfl | rfl | rfl
    · exact s.no _ (by simp)
    · exact s.no _ (by simp)
    · exact s.no _ (by simp)
    · exact s.no _ (by simp)
    · exact fun m hm o => (s.hs.at_ m hm).new hp o
    · exact s.no _ (by simp)
    · exact s.no _ (by simp)
/-! ### reading the scene -/
variable {σ : L2.St}
theorem ev_sc (s : Sc K F H a L xs w rd st) {i : Nat} {k : Str} {v : V} (h0 : σ[i]? = some (some (.ref a.sc))) (hv : valV (scK a rd st) (Sum.inr k) = some v) : Evl.Ev (tDGet (tVar i) (tC (.str k))) σ H v := fun H1 e Q q => by
  refine ⟨_, h0, a.sc, v, rfl, ?_, q H1 (Evl.Ex.refl H1)⟩
  have := DGet.k (k := Sum.inr k) (e _ _ s.sc)
  rw [hv] at this
  exact this
theorem v_members : valV (scK a rd st) (Sum.inr "members") = some (.ref a.mt) := by kernel_rfl
theorem v_houses : valV (scK a rd st) (Sum.inr "houses") = some (.ref a.hd) := by kernel_rfl
theorem v_post : valV (scK a rd st) (Sum.inr "post") = some (.ref a.po) := by kernel_rfl
theorem v_known : valV (scK a rd st) (Sum.inr "known") = some (.ref a.kn) := by kernel_rfl
theorem v_read : valV (scK a rd st) (Sum.inr "read") = some (.int (rd : Int)) := by kernel_rfl
theorem v_stamp : valV (scK a rd st) (Sum.inr "stamp") = some (.int (st : Int)) := by kernel_rfl
theorem valV_hd : ∀ {L : List Nat} {n : Nat}, n ∈ L → valV (hdK L xs) (Sum.inr (nS n)) = some (.ref (xs n).p)
  | m :: L, n, h => by
    by_cases c : m = n
    · subst c; exact valV_pos rfl
    · rcases List.mem_cons.mp h with z | z
      · exact absurd z.symm c
      · show valV ((Sum.inr (nS m), V.ref (xs m).p) :: hdK L xs) _ = _
        rw [valV_neg (fun q => c (inr_nS.mp q))]
        exact valV_hd z
/-- _law_scene["houses"][name] -/
theorem ev_house (s : Sc K F H a L xs w rd st) {i : Nat} {tk : TE} {n : Nat} (hn : n ∈ L) (h0 : σ[i]? = some (some (.ref a.sc))) (hk : EvD K tk σ H (dN n)) : Evl.Ev (tDGet (tDGet (tVar i) (tC (.str "houses"))) tk) σ H (.ref (xs n).p) := fun H1 e Q q => by
  refine ev_sc s h0 v_houses H1 e _ fun H2 e2 => ?_
  refine hk H2 (e.trans e2) _ fun v H3 e3 dv => ?_
  rw [dp_str dv]
  refine ⟨a.hd, _, rfl, ?_, q H3 (e2.trans e3)⟩
  have := DGet.k (k := Sum.inr (nS n)) (((e.trans e2).trans e3) _ _ s.hd)
  rw [valV_hd hn] at this
  exact this
theorem put_read {rd' : Nat} : putK (scK a rd st) (Sum.inr "read") (.int (rd' : Int)) = scK a rd' st := by kernel_rfl
theorem put_stamp {st' : Nat} : putK (scK a rd st) (Sum.inr "stamp") (.int (st' : Int)) = scK a rd st' := by kernel_rfl
end
end Wn

set_option Elab.async false
set_option linter.all false
set_option maxRecDepth 100000
set_option maxHeartbeats 4000000
/-! the scene's start. -/
namespace Wn
open PySem PySem.Spec PyProof.Rows L2
open Zab hiding World Place Row
section
variable {P : Program} {w : World} {K : PySem.W.Frag} {mg : Str → Option Value} {base : Heap}
theorem pe_mk {X : Cx} {C : Addr} {k n : Nat} {f : Addr} {ps ks : List Str} {sp : Sp} {x : Str} {p pos : Pos} {e : Expr} {es : List Expr} {kws : List Keyword} {t tk : TA} (c : CalK X.prog X.w X.K X.mg X.base k f ps (n + 1) ks sp) (M : Mk X.K C f) (hr : Room (k + 1) X.A) (hg : Gl X x) (hm : X.mg x = some (.ref C)) (ha : PA X (e :: es) t) (hkw : PK X kws tk)
    (hall : (backToKw pos (keywordEach kws X.env)).all (·.1.isSome) = true := by rfl) (hks : (backToKw pos (keywordEach kws X.env)).filterMap (·.1) = ks := by rfl)
    (hdb : (x == ("__debug__" : Str)) = false := by decide) (he : starEach (e :: es) X.env = (false, eval e X.env) :: starEach es X.env := by rfl)
    (hpl : ((backTo pos (starEach (e :: es) X.env)).any (·.1) || (backToKw pos (keywordEach kws X.env)).any (·.1.isNone)) = false := by rfl) : PE X (.Call (.Name x p) (e :: es) kws pos) (tMakeK C n ks.length sp (fun vs zs => vs ++ zs) E0 t tk) := by
  obtain ⟨fd, F, hb⟩ := c.ex
  exact pe_makeK M F hr hg hm hb pass0 ha hkw hall hks hdb he hpl
/-- after i turns: the first houses of L stand apart, new, and the list of the pairs holds them -/
structure StW (K : PySem.W.Frag) (H0 : Hp) (D : Addr) (L : List Nat) (i : Nat) (H : Hp) (xs : Nat → HX) (ps : List Addr) : Prop where
  d0 : H0 D = none
  ex : Ex H0 H
  at_ : H D = some (.lst (ps.map V.ref))
  pr : Paired (fun p (kv : Key × V) => SqT K H p [kV kv.1, kv.2]) ps ((L.take i).map fun n => (Sum.inr (nS n), V.ref (xs n).p))
  hs : Hs K H (L.take i) xs (fun n => first n L)
  own : ∀ n ∈ L.take i, ∀ b, Own (xs n) b → H0 b = none ∧ b ≠ D
theorem stw_start {H0 : Hp} {D : Addr} {L : List Nat} (xs : Nat → HX) (hD : H0 D = none) : StW K H0 D L 0 (upd H0 D (.lst [])) xs [] where
  d0 := hD
  ex := Evl.Ex.new hD
  at_ := upd_same
  pr := .nil
  hs := ⟨fun n hn => (by cases hn), fun n hn => (by cases hn)⟩
  own := fun n hn => by cases hn
theorem tk_snoc {L : List Nat} {i n : Nat} (h : L[i]? = some n) : L.take (i + 1) = L.take i ++ [n] := by
  rw [List.take_add_one, h]; rfl
theorem nodup_take {L : List Nat} (nd : L.Nodup) {i n : Nat} (h : L[i]? = some n) : n ∉ L.take i := fun m => by
  have := List.Nodup.sublist (List.take_sublist (i + 1) L) nd
  rw [tk_snoc h] at this
  exact (List.nodup_append.mp this).2.2 n m n (by simp) rfl
theorem stw_turn {H0 H H2 : Hp} {D : Addr} {L : List Nat} {i n : Nat} {xs : Nat → HX} {ps : List Addr} {x : HX} {q : Addr} (s : StW K H0 D L i H xs ps) (nd : L.Nodup) (hn : L[i]? = some n) (e : Ex H H2) (hx : HAt K H2 x (first n L)) (ho : ∀ b, Own x b → H b = none)
    (hq : H2 q = some (.tup [.str (nS n), .ref x.p])) : StW K H0 D L (i + 1) (upd H2 D (.lst (ps.map V.ref ++ [.ref q]))) (putX xs n x) (ps ++ [q]) where
  d0 := s.d0
  ex := fun b o hb => by
    rw [upd_ne (fun z => by rw [z, s.d0] at hb; cases hb)]
    exact e b o (s.ex b o hb)
  at_ := by rw [upd_same, List.map_append]; rfl
  pr := by
    have nn := nodup_take nd hn
    have hd := e _ _ s.at_
    have far : ∀ {p us}, SqT K H2 p us → SqT K (upd H2 D (.lst (ps.map V.ref ++ [.ref q]))) p us := fun {p us} h => sqT_keep (tups_upd hd) (frz_upd hd) h
    rw [tk_snoc hn, List.map_append]
    have e1 : ((L.take i).map fun m => ((Sum.inr (nS m) : Key), V.ref (putX xs n x m).p)) = (L.take i).map fun m => ((Sum.inr (nS m) : Key), V.ref (xs m).p) := List.map_congr_left fun m hm => by
      have : putX xs n x m = xs m := if_neg fun z => nn (by rw [← z]; exact hm)
      rw [this]
    have e2 : putX xs n x n = x := if_pos rfl
    rw [e1]
    refine Paired.snoc (s.pr.mono fun p kv h => far (Evl.ex_t e h)) ?_
    show SqT K _ q [.str (nS n), .ref (putX xs n x n).p]
    rw [e2]
    exact far (SqT.of hq)
  hs := by
    have nn := nodup_take nd hn
    have hd := e _ _ s.at_
    have old : ∀ m ∈ L.take i, putX xs n x m = xs m := fun m hm => if_neg fun z => nn (by rw [← z]; exact hm)
    have new : putX xs n x n = x := if_pos rfl
    have sep : ∀ m ∈ L.take i, ∀ b, Own (xs m) b → ¬ Own x b := fun m hm b o1 o2 => (s.hs.at_ m hm).new (ho b o2) o1
    have noD : ¬ Own x D := fun z => by have := ho D z; rw [s.at_] at this; cases this
    rw [tk_snoc hn]
    constructor
    · intro m hm
      rcases List.mem_append.mp hm with hm | hm
      · rw [old m hm]
        exact ((s.hs.at_ m hm).ex e).far hd fun z => (s.own m hm D z).2 rfl
      · rw [List.mem_singleton.mp hm, new]
        exact hx.far hd noD
    · intro a ha m hm am b o1 o2
      rcases List.mem_append.mp ha with ha | ha
      · rw [old a ha] at o1
        rcases List.mem_append.mp hm with hm | hm
        · rw [old m hm] at o2
          exact s.hs.dis a ha m hm am b o1 o2
        · rw [List.mem_singleton.mp hm, new] at o2
          exact sep a ha b o1 o2
      · rw [List.mem_singleton.mp ha, new] at o1
        rcases List.mem_append.mp hm with hm | hm
        · rw [old m hm] at o2
          exact sep m hm b o2 o1
        · exact am ((List.mem_singleton.mp ha).trans (List.mem_singleton.mp hm).symm)
  own := fun m hm b ob => by
    have nn := nodup_take nd hn
    rw [tk_snoc hn] at hm
    rcases List.mem_append.mp hm with hm | hm
    · have e1 : putX xs n x m = xs m := if_neg fun z => nn (by rw [← z]; exact hm)
      rw [e1] at ob
      exact s.own m hm b ob
    · have e1 : putX xs n x m = x := if_pos (List.mem_singleton.mp hm)
      rw [e1] at ob
      have hb := ho b ob
      exact ⟨Evl.fresh_back s.ex hb, fun z => by rw [z, s.at_] at hb; cases hb⟩
structure LOk5 (L : List Nat) : Prop where
  ok : MemOk L
  le : L.length ≤ 5
theorem dpA_names_inv {K : PySem.W.Frag} {H : Hp} : ∀ {L : List Nat} {us : List V}, DpAll K H us (L.map dN) → us = L.map fun n => V.str (nS n)
  | [], us, h => dpA0 h
  | n :: L, us, h => by
    cases h with
    | cons a b => rw [dp_str a, dpA_names_inv b]; rfl
theorem sc_law_start : FnScope ["_law_pool_here", "_law_eyes", "_law_members", "_law_houses", "_law_name"] ["_law_pool_here", "_law_eyes"] (defScope s_law_start) := ⟨rfl, rfl, rfl, by decide +kernel, rfl, by decide +kernel, by decide +kernel⟩
theorem Tick.tups {H H' : Hp} {p : Addr} (hp : PoolAt H p) (t : Tick H p H') : Tups H H' := fun b us hb => t.2 b _ (fun z => by obtain ⟨c, s, h, _⟩ := hp; rw [z, h] at hb; cases hb) hb
theorem Tick.frz {H H' : Hp} {p : Addr} (hp : PoolAt H p) (t : Tick H p H') : Frz H H' := fun b u v hb => t.2 b _ (fun z => by obtain ⟨c, s, h, _⟩ := hp; rw [z, h] at hb; cases hb) hb
def membs : List (List Nat) := [[97, 98, 99], [99, 97, 98], [101, 100, 99, 98, 97], [110, 109], [113]]
theorem membs_ok {L : List Nat} (h : L ∈ membs) : LOk5 L := by
  simp only [membs, List.mem_cons, List.not_mem_nil, or_false] at h
  rcases h with rfl | rfl | rfl | rfl | rfl <;> exact ⟨⟨by unfold NmOk; decide, by decide, by decide, by decide⟩, by decide⟩
theorem mergeK_new : ∀ (more kvs : List (Key × V)), ((kvs ++ more).map (·.1)).Nodup → mergeK kvs more = kvs ++ more
  | [], kvs, _ => by simp [mergeK]
  | kv :: more, kvs, h => by
    have h1 : kvs.any (fun x => decide (x.1 = kv.1)) = false := by
      rw [List.any_eq_false]
      intro x hx z
      rw [List.map_append] at h
      exact (List.nodup_append.mp h).2.2 x.1 (List.mem_map.mpr ⟨x, hx, rfl⟩) kv.1 (by simp) (of_decide_eq_true z)
    have h2 : putK kvs kv.1 kv.2 = kvs ++ [kv] := by
      unfold putK
      rw [h1]
      rfl
    show mergeK (putK kvs kv.1 kv.2) more = _
    rw [h2, mergeK_new more (kvs ++ [kv]) (by simpa using h)]
    simp
structure St0 (K : PySem.W.Frag) (H H' : Hp) (a : SA) (L : List Nat) (xs : Nat → HX) : Prop where
  sc : H' a.sc = some (.dK (scK a 0 0))
  mt : SqT K H' a.mt (names L)
  hd : H' a.hd = some (.dK (hdK L xs))
  po : H' a.po = some (.lst [])
  kn : H' a.kn = some (.dK [])
  pl : PoolAt H' a.p
  hs : Hs K H' L xs (fun n => first n L)
  keep : But a.p H H'
  own : ∀ n ∈ L, ∀ b, Own (xs n) b → H b = none
  new : H a.sc = none ∧ H a.po = none ∧ H a.kn = none
  no : ∀ b ∈ [a.sc, a.hd, a.po, a.kn, a.p], NoOwn L xs b
  nd : [a.sc, a.hd, a.po, a.kn, a.p].Nodup
theorem hdK_nodup {L : List Nat} (nd : L.Nodup) {xs : Nat → HX} : ((hdK L xs).map (·.1)).Nodup := by
  unfold hdK
  rw [List.map_map]
  exact List.Pairwise.map _ (fun a b h z => h (inr_nS.mp z)) nd
def spStart (K : PySem.W.Frag) : Sp := fun vs H Q _ => ∃ (p : Addr), vs = [.ref p, .str "all"] ∧ PoolAt H p ∧
  ∀ a L xs H', L ∈ membs → a.p = p → St0 K H H' a L xs → Q (.ref a.sc) H'
theorem ok_law_start (T : TX w K mg) : Cal P w K mg base 6 (He.ga K "_law_start") ["_law_pool_here", "_law_eyes"] (spStart K) [] := by
  have C_law_take := ok_law_take (P := P) (base := base) T
  have C_init := ok_init (P := P) (base := base) T
  refine cal_mk T 28 (d := d_law_start) rfl rfl rfl sc_law_start (fun vs H Q E z => by obtain ⟨p, z, _⟩ := z; rw [z]; rfl) (fun _ _ _ _ _ _ us hl => match us, hl with | [_, _], _ => rfl) fun cdv A outer s H vs Q E hr z => ?_
  obtain ⟨p, rfl, hp, q⟩ := z
  refine ⟨_, (pss_cons (ps_asg (pe_ix ix_list (pe_lst (pa_cons (pe_tup (pa_cons pe_str (pa_cons pe_str (pa_cons pe_str pa_nil)))) (pa_cons (pe_tup (pa_cons pe_str (pa_cons pe_str (pa_cons pe_str pa_nil)))) (pa_cons (pe_tup (pa_cons pe_str (pa_cons pe_str (pa_cons pe_str (pa_cons pe_str (pa_cons pe_str pa_nil)))))) (pa_cons (pe_tup (pa_cons pe_str (pa_cons pe_str pa_nil))) (pa_cons (pe_tup (pa_cons pe_str pa_nil)) pa_nil)))))) (pe_k C_law_take (hr.mono (by decide)) (by rfl) T.g_law_take (pa_cons (pv 0) (pa_cons pe_int pa_nil))) (fun _ _ => rfl)) (pg_name (i := 2) sc_law_start.nd rfl (by first | exact Or.inl rfl | exact Or.inr rfl)))
    (pss_cons (ps_asg (pe_callTy (call_dictP rfl) (by rfl) T.b_dict bt_dict (pa_cons (pe_lc (own := [("_law_name", 4)]) (g := gName 4) (by rfl) sc_law_start.nd (pi_tup (pv 2)) (blkOk_by (own := [("_law_name", 4)]) (N := ["_law_pool_here", "_law_eyes", "_law_members", "_law_houses", "_law_name"]) (sc := defScope s_law_start) (by decide +kernel)) (fun _ _ _ _ _ => pg_name (i := 4) sc_law_start.nd rfl (Or.inl rfl)) (fun _ _ _ _ _ => pts_nil) (fun _ _ _ _ _ => (pe_tup (pa_cons (pv 4) (pa_cons (pe_mk C_init T.mkr (hr.mono (by decide)) (by rfl) T.g_House (pa_cons (pv 4) (pa_cons (pv 2) pa_nil)) (pk_cons (pv 1) pk_nil)) pa_nil))))) pa_nil)) (pg_name (i := 3) sc_law_start.nd rfl (by first | exact Or.inl rfl | exact Or.inr rfl)))
    (pss_one (ps_ret (pe_disp (pps_cons pe_str (pv 2) (pps_cons pe_str (pv 3) (pps_cons pe_str (pe_lst pa_nil) (pps_cons pe_str pe_dnewK (pps_cons pe_str pe_int (pps_cons pe_str pe_int pps_nil)))))) rfl rfl (by intro z; cases z) (by decide)))))), ?_⟩
  refine c_asg ?_
  have edata : ([.tuple [.str "a", .str "b", .str "c"], .tuple [.str "c", .str "a", .str "b"], .tuple [.str "e", .str "d", .str "c", .str "b", .str "a"], .tuple [.str "n", .str "m"], .tuple [.str "q"]] : List PyData) = membs.map fun L => .tuple (L.map dN) := by kernel_rfl
  refine (evn_lst (K := K) (eds_cons (evd_tup (eds_cons evd_str (eds_cons evd_str (eds_cons evd_str eds_nil)))) (eds_cons (evd_tup (eds_cons evd_str (eds_cons evd_str (eds_cons evd_str eds_nil)))) (eds_cons (evd_tup (eds_cons evd_str (eds_cons evd_str (eds_cons evd_str (eds_cons evd_str (eds_cons evd_str eds_nil)))))) (eds_cons (evd_tup (eds_cons evd_str (eds_cons evd_str eds_nil))) (eds_cons (evd_tup (eds_cons evd_str eds_nil)) eds_nil)))))) H (Evl.Ex.refl H) _ fun l H1 hl e1 l1 => ?_
  rw [edata] at l1
  refine c_call (c_cons (c_var (i := 0) (c_cons (c_c (c_nil ⟨p, 5, rfl, hp.ex e1, by decide, by decide, fun d H2 hd t2 => ?_⟩))) (by rfl)))
  have lp : l ≠ p := fun z => by obtain ⟨c, s, h, _⟩ := hp; rw [z, h] at hl; cases hl
  obtain ⟨ws, l2, l3⟩ := l1
  have l2' := t2.2 l _ lp l2
  have l3' := dpA_keep (t2.tups (hp.ex e1)) (t2.frz (hp.ex e1)) (by intro d hd; obtain ⟨L, hL, rfl⟩ := List.mem_map.mp hd; exact .tup (fun x hx => by obtain ⟨n, hn, rfl⟩ := List.mem_map.mp hx; exact .str _)) l3
  obtain ⟨L, hL⟩ : ∃ L, membs[d]? = some L := ⟨membs[d]'(by simpa [membs] using hd), List.getElem?_eq_getElem _⟩
  refine rd_ixL (K := K) (ds := membs.map fun L => .tuple (L.map dN)) (d := .tuple (L.map dN)) (atI_nat (by rw [List.getElem?_map, hL]; rfl)) H2 _ _ (.lst (SqL.of l2') l3') (.int _) _ fun v H3 e3 hv => ?_
  have hLm := List.mem_of_getElem? hL
  obtain ⟨mt, us, rfl, hmt, hus⟩ := dp_tup hv
  have eus : us = L.map fun n => V.str (nS n) := dpA_names_inv hus
  subst eus
  show tSeq _ _ _ _ _
  simp only [L2.start, List.map_cons, List.map_nil, List.length_cons, List.length_nil, List.replicate_succ, List.replicate_zero, List.cons_append, List.nil_append, List.set_cons_zero, List.set_cons_succ, Nat.reduceAdd, Nat.reduceSub]
  obtain ⟨mok, m5⟩ := membs_ok hLm
  refine c_asg (c_cb (c_cons ?_))
  refine ⟨.ref mt, rfl, mt, rfl, ⟨_, hmt⟩, fun D hD => lc_tup (xs := L.map fun n => V.str (nS n)) (fun i H' => ∃ xs ps, StW K H3 D L i H' xs ps) ⟨fun _ => ⟨0, 0, 0, 0, 0, 0, 0, 0, 0, 0, 0, 0⟩, [], stw_start _ hD⟩ (fun i H' _ z => by obtain ⟨xs, ps, z⟩ := z; exact Evl.ex_t z.ex hmt) (fun i v H4 hv z => ?_) fun H4 z => ?_⟩
  · obtain ⟨xs, ps, z⟩ := z
    rw [List.getElem?_map] at hv
    obtain ⟨n, hn, rfl⟩ := Option.map_eq_some_iff.mp hv
    have hnm := List.mem_of_getElem? hn
    refine ⟨by rfl, c_yes (c_tup (c_cons (c_var (i := 4) (c_cons ?_) (by rfl))))⟩
    refine c_cons (c_var (i := 4) (c_cons (c_var (i := 2) (c_nil (c_cons (c_var (i := 1) (c_nil ⟨rfl, rfl, fun x dx hx hdx hne => ?_⟩) (by rfl)))) (by rfl))) (by rfl))
    have eb : Ex H4 (upd (upd H4 dx (.own x)) x (.ins (CH K) dx [])) := (Evl.Ex.new hdx).trans (Evl.Ex.new (by rw [upd_ne (Ne.symm hne)]; exact hx))
    refine ⟨x, dx, mt, n, L, rfl, upd_same, mok, hnm, Evl.ex_t (z.ex.trans eb) hmt, fun x' H5 hp' i' f' o' => ⟨rfl, c_nil ⟨Evl.sz_of (show 2 ≤ 100000 by decide), fun q hq => ?_⟩⟩⟩
    have e45 : Ex H4 H5 := fun b o hb => f' b o (eb b o hb) fun zz => by rw [zz, hx] at hb; cases hb
    have e5q := Evl.Ex.new (o := .tup [.str (nS n), .ref x]) hq
    refine ⟨ps.map V.ref, (e45.trans e5q) _ _ z.at_, ?_, putX xs n x', ps ++ [q], ?_⟩
    · have := z.pr.length
      rw [List.length_map, this, List.length_map]
      rw [sizeLine_eq]
      have : (L.take i).length ≤ L.length := by rw [List.length_take]; omega
      omega
    · refine stw_turn z mok.nd hn (e45.trans e5q) (i'.ex e5q) (fun b ob => ?_) (by rw [hp']; exact upd_same)
      rcases o' b ob with z1 | z1
      · rw [z1]; exact hx
      · exact Evl.fresh_back eb z1
  · obtain ⟨xs, ps, z⟩ := z
    rw [List.length_map] at z
    have zp := z.pr
    have zh := z.hs
    have zo := z.own
    rw [List.take_length] at zp zh zo
    refine c_nil ⟨D, ps, hdK L xs, rfl, SqL.of z.at_, zp, fun hd hhd => ?_⟩
    rw [mergeK_new _ _ (by rw [List.nil_append]; exact hdK_nodup mok.nd), List.nil_append]
    show tRet _ _ _ _
    simp only [L2.start, List.map_cons, List.map_nil, List.length_cons, List.length_nil, List.replicate_succ, List.replicate_zero, List.cons_append, List.nil_append, List.set_cons_zero, List.set_cons_succ, Nat.reduceAdd, Nat.reduceSub]
    have ehd := Evl.Ex.new (o := HO.dK (hdK L xs)) hhd
    refine c_ret ?_
    intro sc hsc
    have e5 := Evl.Ex.new (o := HO.dK []) hsc
    simp only [tPairs]
    refine c_c (c_var (i := 2) (c_c (c_var (i := 3) (c_c (c_lst (c_nil ⟨Nat.zero_le _, fun po hpo => ?_⟩))) (by rfl))) (by rfl))
    refine c_c (fun kn hkn => ?_)
    refine c_c (c_c (c_c (c_c ?_)))
    have e6 := Evl.Ex.new (o := HO.lst []) hpo
    have e7 := Evl.Ex.new (o := HO.dK []) hkn
    have sc7 := (e6.trans e7) _ _ (upd_same (H := upd H4 hd (HO.dK (hdK L xs))) (a := sc) (o := HO.dK []))
    refine ⟨sc7, scK ⟨sc, mt, hd, po, kn, p, 0, 0⟩ 0 0, rfl, by show 6 ≤ 15; decide, ?_⟩
    rw [mergeK_new _ _ (by rw [List.nil_append]; show List.Nodup ([Sum.inr "members", Sum.inr "houses", Sum.inr "post", Sum.inr "known", Sum.inr "read", Sum.inr "stamp"] : List Key); decide +kernel), List.nil_append]
    have e47 := ehd.trans (e5.trans (e6.trans e7))
    have f : But sc _ _ := But.upd (q := sc) (H := upd (upd (upd (upd H4 hd (HO.dK (hdK L xs))) sc (HO.dK [])) po (HO.lst [])) kn (HO.dK [])) (o := HO.dK (scK ⟨sc, mt, hd, po, kn, p, 0, 0⟩ 0 0))
    have tu := f.tups (by intro us y; rw [sc7] at y; cases y)
    have fr := f.frz (by intro o u y; rw [sc7] at y; cases y)
    have p3 := t2.1.ex e3
    have p4 := p3.ex z.ex
    obtain ⟨pc, ps0, pH3, _⟩ := p3
    have pH4 := z.ex _ _ pH3
    have k3 : ∀ b o, b ≠ p → H b = some o → H3 b = some o := fun b o n h => e3 _ _ (t2.2 b o n (e1 b o h))
    have back3 : ∀ b, H3 b = none → H b = none := fun b h => by
      cases y : H b with
      | none => rfl
      | some o =>
        by_cases c : b = p
        · rw [c, pH3] at h; cases h
        · rw [k3 b o c y] at h; cases h
    have sc4 := Evl.fresh_back ehd hsc
    have po5 := Evl.fresh_back e5 hpo
    have po4 := Evl.fresh_back ehd po5
    have kn6 := Evl.fresh_back e6 hkn
    have kn5 := Evl.fresh_back e5 kn6
    have kn4 := Evl.fresh_back ehd kn5
    have ne : ∀ {G : Hp} {b c : Addr} {o : HO}, G b = some o → G c = none → b ≠ c := fun {G b c o} h h' y => by rw [y, h'] at h; cases h
    have hd_s : (upd H4 hd (HO.dK (hdK L xs))) hd = some (HO.dK (hdK L xs)) := upd_same
    have sc_s : (upd (upd H4 hd (HO.dK (hdK L xs))) sc (HO.dK [])) sc = some (HO.dK []) := upd_same
    have po_s : (upd (upd (upd H4 hd (HO.dK (hdK L xs))) sc (HO.dK [])) po (HO.lst [])) po = some (HO.lst []) := upd_same
    have n1 : hd ≠ sc := ne hd_s hsc
    have n2 : sc ≠ po := ne sc_s hpo
    have n3 : sc ≠ kn := ne sc_s kn6
    have n4 : hd ≠ po := ne hd_s po5
    have n5 : hd ≠ kn := ne hd_s kn5
    have n6 : po ≠ kn := ne po_s hkn
    refine q ⟨sc, mt, hd, po, kn, p, 0, 0⟩ L xs _ hLm rfl ⟨upd_same, sqT_keep tu fr (Evl.ex_t (z.ex.trans e47) hmt), f _ _ n1 ((e5.trans (e6.trans e7)) _ _ hd_s), f _ _ n2.symm (e7 _ _ po_s), f _ _ n3.symm upd_same, ?_, ?_, ?_, ?_, ⟨back3 _ (Evl.fresh_back z.ex sc4), back3 _ (Evl.fresh_back z.ex po4), back3 _ (Evl.fresh_back z.ex kn4)⟩, ?_, ?_⟩
    · obtain ⟨c, sd, h1, h2⟩ := p4.ex e47
      exact ⟨c, sd, f _ _ (ne pH4 sc4) h1, h2⟩
    · exact (zh.ex e47).keep tu fr fun b o hb hn => f b o (fun y => hn (by rw [y]; exact fun m hm => (zh.at_ m hm).new sc4)) hb
    · intro b o n h
      have h4 := z.ex _ _ (k3 b o n h)
      exact f _ _ (ne h4 sc4) (e47 _ _ h4)
    · exact fun m hm b ob => back3 b (zo m hm b ob).1
    · intro b hb
      simp only [List.mem_cons, List.not_mem_nil, or_false] at hb
      rcases hb with rfl | rfl | rfl | rfl | rfl
      · exact fun m hm => (zh.at_ m hm).new sc4
      · exact fun m hm => (zh.at_ m hm).new hhd
      · exact fun m hm => (zh.at_ m hm).new po4
      · exact fun m hm => (zh.at_ m hm).new kn4
      · intro m hm ob
        have := (zo m hm _ ob).1
        rw [pH3] at this
        cases this
    · show [sc, hd, po, kn, p].Nodup
      exact nd5.mpr ⟨⟨n1.symm, n2, n3, (ne pH4 sc4).symm⟩, ⟨n4, n5, (ne pH4 hhd).symm⟩, ⟨n6, (ne pH4 po4).symm⟩, (ne pH4 kn4).symm⟩
end
end Wn

set_option Elab.async false
set_option linter.all false
set_option maxRecDepth 100000
set_option maxHeartbeats 4000000
/-! repr of data of tuples: some bounded text, whatever is under way. -/
namespace Wn
open PySem PySem.Spec PyProof.Rows L2
open Zab hiding World Place Row
section
variable {prog : Program} {w : World}
/-- pyRepr of x tells some text of at most B signs -/
def Rp (prog : Program) (w : World) (h0 : Heap) (x : Value) (dep B : Nat) : Prop := ∀ (b : Nat), b + B ≤ sizeLine → ∀ (A : Around) (E : Value → Shared → Prop) (s : Shared) (Q : Str → Shared → Prop), A.units + dep < cLine → s.heap = h0 →
  (∀ (t : Str) tk, t.length ≤ B → Q t { s with toks := tk }) → wpAny (model prog w) A (pyReprUnder b x) Q E s
inductive RpAll (prog : Program) (w : World) (h0 : Heap) (dep : Nat) : List Value → Nat → Prop
  | nil : RpAll prog w h0 dep [] 0
  | cons {x : Value} {l : List Value} {B C : Nat} : Rp prog w h0 x dep B → RpAll prog w h0 dep l C → RpAll prog w h0 dep (x :: l) (B + 2 + C)
variable {h0 : Heap} {dep : Nat}
theorem Rp.of_is {x : Value} {t : Str} {B : Nat} (h : ReprIs prog w x t) (hb : t.length ≤ B) : Rp prog w h0 x dep B := fun b hz A E s Q _ _ q => h b (by omega) A E s Q fun tk => q t tk hb
theorem Rp.mono {x : Value} {d B d' B' : Nat} (h : Rp prog w h0 x d B) (hd : d ≤ d') (hB : B ≤ B') : Rp prog w h0 x d' B' := fun b hz A E s Q hu hh q => h b (by omega) A E s Q (by omega) hh fun t tk ht => q t tk (by omega)
theorem RpAll.mono {d d' : Nat} (hd : d ≤ d') : ∀ {l : List Value} {B : Nat}, RpAll prog w h0 d l B → RpAll prog w h0 d' l B
  | _, _, .nil => .nil
  | _, _, .cons a b => .cons (a.mono hd (Nat.le_refl _)) (b.mono hd)
theorem rp_fold {A : Around} {E : Value → Shared → Prop} (hu : A.units + dep < cLine) : ∀ (l : List Value) (B : Nat) (acc : Array Str) (n : Nat) (s : Shared) (Q : (Array Str × Nat) → Shared → Prop), RpAll prog w h0 dep l B → n + B ≤ sizeLine → s.heap = h0 →
    (∀ ts tk, ts.length = l.length → piled ts ≤ B → Q ⟨acc ++ ts.toArray, n + piled ts⟩ { s with toks := tk }) → wpAny (model prog w) A (forIn l (⟨acc, n⟩ : (Array Str × Nat)) tupBody) Q E s := by
  intro l
  induction l with
  | nil =>
    intro B acc n s Q hT _ _ h
    have h1 := h [] s.toks rfl (by simp [piled])
    simp only [List.forIn_nil]
    exact wpAny_pure (by simpa [piled] using h1)
  | cons x l ih =>
    intro B acc n s Q hT hn hh h
    cases hT with
    | @cons _ _ B C hx hl =>
      rw [List.forIn_cons]
      refine wpAny_bind (wpAny_bind (hx (n + 1) (by omega) _ _ _ _ hu hh fun t tk ht => wpAny_pure ?_))
      refine ih C (acc.push t) (n + (t.length + 2)) _ Q hl (by omega) hh fun ts tk' hts hp => ?_
      have h1 := h (t :: ts) tk' (by simp [hts]) (by rw [piled_cons]; omega)
      have e : n + piled (t :: ts) = n + (t.length + 2) + piled ts := by rw [piled_cons]; omega
      rw [e] at h1
      simpa using h1
theorem tupleText_le (ts : List Str) : (tupleText ts).length ≤ piled ts + 3 := by
  unfold tupleText
  rw [strLen_append, strLen_append]
  have e1 : ((("(" : String) : Str)).length = 1 := rfl
  have e3 : (((if ts.length == 1 then ",)" else ")" : String) : Str)).length ≤ 2 := by split <;> decide
  rw [e1]
  by_cases h : ts = []
  · subst h
    have : (Str.join ", " ([] : List Str)).length = 0 := rfl
    omega
  · have := join_length_add ts h
    omega
theorem rp_at {a : Addr} {o : Obj} {items : Array Value} {n B : Nat} (ha : h0.get? a = some o) (hd : o.data = .seq items n) (hT : RpAll prog w h0 dep items.toList B) {A : Around} {E : Value → Shared → Prop} {s : Shared} {base : Nat} {Q : Fin → Shared → Prop}
    (hz : base + B + 7 ≤ sizeLine) (hu : A.units + dep < cLine) (hh : s.heap = h0) (h : ∀ (t : Str) u tk, t.length ≤ B + 7 → Q (.done (.ret (.str t u))) { s with toks := tk }) :
    wpAny (model prog w) A (Builtin.tupleReprAt base ⟨[.ref a], []⟩) Q E s := by
  rw [tuple_repr_tree]
  refine wpAny_bind (fmt_underWay fun b => ?_)
  cases b with
  | true =>
    refine PySem.W.KFB.if_so rfl ?_
    refine wpAny_bind (wpAny_rule ?_)
    refine wpAny_bind (wpAny_mkStr (wpAny_pure ?_) (by decide +kernel))
    exact h "(...)" _ _ (Nat.le_trans fmt_way (by omega))
  | false =>
    refine PySem.W.KFB.if_not rfl ?_
    unfold tupleReprRest Builtin.Tuple.tupleItemsOf
    refine wpAny_bind (wpAny_bind (wpAny_seqItems (by rw [hh]; exact ha) hd (wpAny_pure ?_)))
    rw [← Array.forIn_toList]
    refine wpAny_bind (rp_fold (h0 := h0) hu _ B _ _ _ _ hT (by omega) hh fun ts tk hl hp => ?_)
    have hlen : ts.length = items.size := by simpa using hl
    have ht := tupleText_le ts
    refine wpAny_bind (wpAny_mkStr (wpAny_pure ?_) (by
      have : (tupleText ts).length ≤ sizeLine := by omega
      simpa [tupleText, hlen] using this))
    have h1 := h (tupleText ts) tk (tk + 1) (by omega)
    simpa [tupleText, hlen] using h1
theorem Rp.tup {a : Addr} {o : Obj} {items : Array Value} {n B : Nat} (ha : h0.get? a = some o) (hc : o.cls = .type "tuple") (hd : o.data = .seq items n) (hT : RpAll prog w h0 dep items.toList B) : Rp prog w h0 (.ref a) (dep + 1) (B + 7) := by
  intro b hz A E s Q hu hh q
  refine wpAny_pyReprUnder_ref (by omega) (wpAny_pyReprObjUnder_twin (twin := "tuple.__repr__.under") ⟨o, by rw [hh]; exact ha, hc⟩ F.slot_tuple_repr rfl (by omega) ?_)
  refine call_twin_own (F.quiet_tuple_repr_under _) F.entry_tuple_repr_under F.check_tuple_repr_under ⟨o, by rw [hh]; exact ha, hc⟩ F.slot_tuple_repr (F.args_tuple_repr_1 _) (wpOwn_of_wpAny ?_)
  refine rp_at ha hd hT (by omega) (by rw [units_under_tuple_repr_under]; omega) hh fun t u tk ht => ?_
  exact ⟨⟨_, _, rfl⟩, _, _, rfl, q t tk ht⟩
/-- repr(t), t a tuple -/
theorem rp_call {a : Addr} {o : Obj} {items : Array Value} {n B : Nat} (ha : h0.get? a = some o) (hc : o.cls = .type "tuple") (hd : o.data = .seq items n) (hT : RpAll prog w h0 dep items.toList B) {A : Around} {E : Value → Shared → Prop} {s : Shared} {Q : Value → Shared → Prop}
    (hz : B + 7 ≤ sizeLine) (hu : A.units + dep + 2 < cLine) (hh : s.heap = h0) (q : ∀ (t : Str) u tk, t.length ≤ B + 7 → Q (.str t u) { s with toks := tk }) : wpAny (model prog w) A (call (.builtin "repr") [.ref a]) Q E s := by
  refine call_repr_slot (by omega) ⟨o, by rw [hh]; exact ha, hc⟩ F.slot_tuple_repr ?_
  refine wpAny_call (codeAny_call_builtin_own (Code.quiet_builtin _ (by decide +kernel)) F.entry_tuple_repr (F.slot_tuple_repr.check _ _ _ _ _ _ _ _ ⟨o, by rw [hh]; exact ha, hc⟩ (F.args_tuple_repr_1 _) (wpOwn_of_wpAny ?_)))
  refine rp_at (base := 0) ha hd hT (by omega) (by rw [units_under_tuple_repr]; show A.units + 1 + 1 + dep < cLine; omega) hh fun t u tk ht => ?_
  exact ⟨_, _, rfl, q t u tk ht⟩
/-! ### data -/
mutual
def rb : PyData → Nat
  | .none => 10
  | .bool _ => 10
  | .int _ => 62
  | .str x => 10 * x.length + 2
  | .list _ => 0
  | .tuple ds => rbs ds + 7
  | .dict _ => 0
def rbs : List PyData → Nat
  | [] => 0
  | d :: ds => rb d + 2 + rbs ds
end
mutual
def rok : PyData → Bool
  | .none => true
  | .bool _ => true
  | .int i => decide (i.natAbs < 2 ^ 60)
  | .str x => x.cps.toList.all fun c => decide (c < 16 ^ 8)
  | .list _ => false
  | .tuple ds => roks ds
  | .dict _ => false
def roks : List PyData → Bool
  | [] => true
  | d :: ds => rok d && roks ds
end
mutual
theorem rp_of (h : Heap) : ∀ {v : Value} {d : PyData} {as : List Addr}, Reads h v d as → rok d = true → rb d ≤ sizeLine → Rp prog w h v d.depth (rb d)
  | _, _, _, .none, _, _ => .of_is ReprIs.none (by simp only [rb]; decide)
  | _, _, _, .bool b, _, _ => .of_is (ReprIs.bool b) (by simp only [rb]; cases b <;> decide)
  | _, _, _, .int i t, hs, _ => by
    have hl : i.natAbs < 2 ^ 60 := by simpa [rok] using hs
    have hlog : i.natAbs.log2 < 60 := by
      by_cases z : i.natAbs = 0
      · rw [z]; decide
      · exact (Nat.log2_lt z).mpr hl
    refine .of_is (ReprIs.int t (Nat.lt_trans hlog (by decide))) ?_
    have := int_text_length_le (k := 60) (by decide) hlog
    simp only [rb]
    rw [PySem.ofString_length]
    omega
  | _, _, _, .str x t, hs, hz => by
    have hc : ∀ c ∈ x.cps.toList, c < 16 ^ 8 := fun c m => by
      simp only [rok, List.all_eq_true] at hs
      exact of_decide_eq_true (hs c m)
    have := StrLaws.reprText_len x hc
    simp only [rb] at hz ⊢
    exact .of_is (ReprIs.str x t (by omega)) this
  | _, _, _, .list _ _ _ _, hs, _ => by
    simp only [rok] at hs
    exact absurd hs Bool.false_ne_true
  | _, _, _, .dict _ _ _ _ _, hs, _ => by
    simp only [rok] at hs
    exact absurd hs Bool.false_ne_true
  | _, _, _, .tuple (a := a) (xs := xs) h1 h2 h3 h4, hs, hz => by
    simp only [rb] at hz ⊢
    simp only [PyData.depth]
    have := rp_all h h4 (by simpa only [rok] using hs) (by omega)
    have k := Rp.tup h1 h2 h3 this
    exact k.mono (by omega) (Nat.le_refl _)
theorem rp_all (h : Heap) : ∀ {vs : List Value} {ds : List PyData} {as : List Addr}, ReadsAll h vs ds as → roks ds = true → rbs ds ≤ sizeLine → RpAll prog w h (PyData.depthAll ds) vs (rbs ds)
  | _, _, _, .nil, _, _ => by simp only [rbs]; exact .nil
  | _, _, _, .cons (d := d) (ds := ds) r rs, hs, hz => by
    simp only [rbs] at hz ⊢
    simp only [roks, Bool.and_eq_true] at hs
    simp only [PyData.depthAll]
    exact .cons ((rp_of h r hs.1 (by omega)).mono (Nat.le_max_left _ _) (Nat.le_refl _)) ((rp_all h rs hs.2 (by omega)).mono (Nat.le_max_right _ _))
end
end
section
variable {X : Cx}
def rReprW (K : PySem.W.Frag) : List V → Hp → VK → Prop := fun xs H Q => ∃ (v : V) (ds : List PyData), xs = [v] ∧ Dp K H v (.tuple ds) ∧ roks ds = true ∧ rbs ds + 7 ≤ 10000000 ∧ PyData.depthAll ds ≤ 60 ∧ ∀ t : Str, t.length ≤ 10000000 → Q (.str t) H
theorem cr_reprW (hu : X.A.units + 64 < cLine) : CallR X (.builtin "repr") (rReprW X.K) := by
  intro pins s σ H xs us Q I r h
  obtain ⟨v, ds, rfl, hd, hs, hz, hdp, q⟩ := h
  obtain ⟨u, rfl, rv⟩ := vals1 r
  obtain ⟨as, rr⟩ := Dp.reads I _ v u hd rv
  cases rr with
  | tuple h1 h2 h3 h4 =>
    have hb : rbs ds + 7 ≤ sizeLine := by rw [sizeLine_eq]; omega
    refine rp_call h1 h2 h3 (rp_all s.heap h4 hs (by omega)) (by omega) (by omega) rfl fun t u tk ht => ?_
    exact ⟨.str t, H, I.tok _, ⟨_, rfl⟩, q t (by omega)⟩
end
end Wn

set_option Elab.async false
set_option linter.all false
set_option maxRecDepth 100000
set_option maxHeartbeats 4000000
/-! a letter may be shown. -/
namespace Wn
open PySem PySem.Spec PyProof.Rows L2
open Zab hiding World Place Row
theorem rbs_map {α : Type} {f : α → PyData} {c : Nat} : ∀ {l : List α}, (∀ a ∈ l, rb (f a) + 2 ≤ c) → rbs (l.map f) ≤ c * l.length
  | [], _ => by simp [rbs]
  | a :: l, h => by
    have h1 := h a List.mem_cons_self
    have h2 := rbs_map (l := l) fun b hb => h b (List.mem_cons_of_mem _ hb)
    rw [List.map_cons, List.length_cons, Nat.mul_succ]
    simp only [rbs]
    omega
theorem roks_map {α : Type} {f : α → PyData} : ∀ {l : List α}, (∀ a ∈ l, rok (f a) = true) → roks (l.map f) = true
  | [], _ => by simp [roks]
  | a :: l, h => by
    rw [List.map_cons]
    simp only [roks, h a List.mem_cons_self, roks_map (l := l) fun b hb => h b (List.mem_cons_of_mem _ hb), Bool.and_self]
theorem rok_dI {n : Nat} (h : n ≤ 1000000) : rok (dI n) = true := by
  simp only [rok, dI, Int.natAbs_natCast, decide_eq_true_eq]
  exact Nat.lt_of_le_of_lt h (by decide)
theorem rok_dP {p : Zab.Place} (h : SzP 1000000 p) : rok (dP p) = true := by
  simp only [rok, roks, dP, rok_dI h.1, rok_dI h.2, Bool.and_self]
theorem rb_dI (n : Nat) : rb (dI n) = 62 := by simp only [rb, dI]
theorem rb_dP (p : Zab.Place) : rb (dP p) = 135 := by simp only [rb, rbs, dP, rb_dI]
theorem rok_who (b : Bool) : rok (.str (whoS b)) = true := by cases b <;> decide +kernel
theorem rb_who (b : Bool) : rb (.str (whoS b)) = 32 := by cases b <;> decide +kernel
theorem rok_dE {e : Ent} (h : e.2 ≤ 1000000) : rok (dE e) = true := by
  have h1 : rok (.str "ask") = true := by decide +kernel
  have h2 : rok (.tuple [.str "bring"]) = true := by decide +kernel
  simp only [dE, rok, roks] at *
  rw [h1, h2]
  have h3 := rok_who e.1
  simp only [rok] at h3
  rw [h3]
  have h4 := rok_dI h
  rw [h4]
  rfl
theorem rb_dE (e : Ent) : rb (dE e) ≤ 300 := by
  have h1 : rb (.str "ask") = 32 := by decide +kernel
  have h2 : rb (.tuple [.str "bring"]) = 61 := by decide +kernel
  have h3 := rb_who e.1
  have h4 := rb_dI e.2
  show rb (.tuple [.str "ask", .str (whoS e.1), dI e.2, .tuple [.str "bring"]]) ≤ 300
  have e1 : rb (.tuple [.str "ask", .str (whoS e.1), dI e.2, .tuple [.str "bring"]]) = rb (.str "ask") + 2 + (rb (.str (whoS e.1)) + 2 + (rb (dI e.2) + 2 + (rb (.tuple [.str "bring"]) + 2 + 0))) + 7 := by simp only [rb, rbs]
  rw [e1, h1, h2, h3, h4]
  decide
theorem rok_dT {t : Thing} (h1 : SzP 1000000 t.1) (h2 : t.2.2 ≤ 1000000) : rok (dT t) = true := by
  show rok (.tuple [dP t.1, dE t.2]) = true
  simp only [rok, roks, rok_dP h1, rok_dE h2, Bool.and_self]
theorem rb_dT (t : Thing) : rb (dT t) ≤ 500 := by
  show rb (.tuple [dP t.1, dE t.2]) ≤ 500
  have h1 := rb_dP t.1
  have h2 := rb_dE t.2
  simp only [rb, rbs]
  omega
theorem rok_nm {n : Nat} (h : NmOk n) : rok (dN n) = true := by
  unfold dN nS
  simp only [rok, List.all_cons, List.all_nil, Bool.and_true, decide_eq_true_eq]
  exact Nat.lt_of_le_of_lt h.2 (by decide)
theorem rb_nm (n : Nat) : rb (dN n) = 12 := by
  show 10 * (nS n).length + 2 = 12
  rfl
theorem rok_way (w : Nat) : rok (.str (wayS w)) = true := by
  match w with
  | 0 => decide +kernel
  | 1 => decide +kernel
  | n + 2 => show rok (.str "all") = true; decide +kernel
theorem rb_way (w : Nat) : rb (.str (wayS w)) ≤ 42 := by
  match w with
  | 0 => decide +kernel
  | 1 => decide +kernel
  | n + 2 => show rb (.str "all") ≤ 42; decide +kernel
theorem rok_word (b : Body) : rok (.str (wordS b)) = true := by
  have h : ∀ x ∈ ([("seek" : Str), "promise", "lead", "sync", "lack", "synced", "propose", "took", "done"] : List Str), rok (.str x) = true := by decide +kernel
  exact h _ (by cases b <;> simp [wordS])
theorem rb_word (b : Body) : rb (.str (wordS b)) ≤ 72 := by
  have h : ∀ x ∈ ([("seek" : Str), "promise", "lead", "sync", "lack", "synced", "propose", "took", "done"] : List Str), rb (.str x) ≤ 72 := by decide +kernel
  exact h _ (by cases b <;> simp [wordS])
theorem roks_dB {D : Nat} {b : Body} (h : BSz D b) (hD : D ≤ 1000000) : roks (dB b) = true := by
  have p : ∀ {q : Zab.Place}, SzP D q → rok (dP q) = true := fun z => rok_dP (z.mono hD)
  cases b with
  | seek ep la => simp only [dB, roks, rok_dI (Nat.le_trans h.1 hD), p h.2, Bool.and_self]
  | promise la => simp only [dB, roks, p h, Bool.and_self]
  | lead => simp only [dB, roks]
  | sync way base things dn =>
    have ht : rok (dTs things) = true := by
      show roks (things.map dT) = true
      exact roks_map fun t ht => rok_dT ((h.2.2.2.1.2 t ht).1.mono hD) (Nat.le_trans (h.2.2.2.1.2 t ht).2.2 hD)
    simp only [dB, roks, rok_way, p h.2.1, p h.2.2.1, ht, Bool.and_self]
  | lack => simp only [dB, roks]
  | synced q => simp only [dB, roks, p h, Bool.and_self]
  | propose prior place en => simp only [dB, roks, p h.1, p h.2.1, rok_dE (Nat.le_trans h.2.2.2.2 hD), Bool.and_self]
  | took q => simp only [dB, roks, p h, Bool.and_self]
  | done q => simp only [dB, roks, p h, Bool.and_self]
theorem rbs_dB {D : Nat} {b : Body} (h : BSz D b) (hD : D ≤ 1000) : rbs (dB b) ≤ 1000000 := by
  cases b with
  | seek ep la => simp only [dB, rbs, rb_dI, rb_dP]; decide
  | promise la => simp only [dB, rbs, rb_dI, rb_dP]; decide
  | lead => simp only [dB, rbs]; decide
  | sync way base things dn =>
    have h1 : rb (dTs things) ≤ 502 * things.length + 7 := by
      show rbs (things.map dT) + 7 ≤ _
      have := rbs_map (f := dT) (c := 502) (l := things) fun t _ => by have := rb_dT t; omega
      omega
    have h2 := rb_way way
    have h3 := h.2.2.2.1.1
    simp only [dB, rbs, rb_dP]
    omega
  | lack => simp only [dB, rbs]; decide
  | synced q => simp only [dB, rbs, rb_dP]; decide
  | propose prior place en =>
    have := rb_dE en
    simp only [dB, rbs, rb_dP]
    omega
  | took q => simp only [dB, rbs, rb_dP]; decide
  | done q => simp only [dB, rbs, rb_dP]; decide
def dLs (l : Letter) : List PyData := .str (wordS l.body) :: dN l.src :: dN l.dst :: dI l.e :: dB l.body
theorem show_dL {M : List Nat} {D : Nat} {l : Letter} (h : LSz M D l) (nm : ∀ x ∈ M, NmOk x) (hD : D ≤ 1000) : roks (dLs l) = true ∧ rbs (dLs l) + 7 ≤ 10000000 ∧ PyData.depthAll (dLs l) ≤ 60 := by
  refine ⟨?_, ?_, ?_⟩
  · simp only [dLs, roks, rok_word, rok_nm (nm _ h.src), rok_nm (nm _ h.dst), rok_dI (Nat.le_trans h.e (Nat.le_trans hD (by decide))), roks_dB h.body (Nat.le_trans hD (by decide)), Bool.and_self]
  · have h1 := rb_word l.body
    have h2 := rbs_dB h.body hD
    simp only [dLs, rbs, rb_nm, rb_dI]
    omega
  · have := (shp_dL (nm _ h.src) (nm _ h.dst)).d
    have e : PyData.depth (dL l) = PyData.depthAll (dLs l) + 1 := by
      show PyData.depth (.tuple (dLs l)) = _
      simp only [PyData.depth]
    rw [e] at this
    omega
end Wn

set_option Elab.async false
set_option linter.all false
set_option maxRecDepth 100000
set_option maxHeartbeats 4000000
/-! one deed of the law's weaving. -/
namespace Wn
open PySem PySem.Spec PyProof.Rows L2
open Zab hiding World Place Row
section
variable {K : PySem.W.Frag} {σ : L2.St} {H : Hp} {x : HX} {h : House} {ta to : TE} {tA : TA} {α : Type} {enc : α → List PyData} {pre : House → α → Prop} {m : Str} {E : XK}
theorem c_Mo {f : House → α → House × List Letter} {k : VK} (ho : Evl.Ev to σ H (.ref x.p)) (i : HAt K H x h) (w : WH h) (a : α) (hp : pre h a) (he : EvDs K tA σ H (enc a)) (l : (hfs x h).lookup m = none)
    (q : ∀ p x' H', HAt K H' x' (f h a).1 → To x H x' H' → H p = none → ¬ Own x' p → LstAt K H' p ((f h a).2.map dL) → k (.ref p) H') : tMeth (CH K) m (spM K enc pre f) [] E to tA σ H k :=
  ho H (Evl.Ex.refl H) _ fun H0 e0 => ⟨x.p, x.dx, _, rfl, (i.ex e0).ob, l, he H0 e0 _ fun vs H1 e hv => ⟨x, h, a, vs, by rw [List.append_nil], (i.ex e0).ex e, w, hp, hv, fun p x' H' i' t hn no l' => q p x' H' i' ((To.ex x (e0.trans e)).trans t) (Evl.fresh_back (e0.trans e) hn) no l'⟩⟩
theorem c_Uo {f : House → α → House} {k : VK} (ho : Evl.Ev to σ H (.ref x.p)) (i : HAt K H x h) (w : WH h) (a : α) (hp : pre h a) (he : EvDs K tA σ H (enc a)) (l : (hfs x h).lookup m = none)
    (q : ∀ x' H', HAt K H' x' (f h a) → To x H x' H' → k .non H') : tMeth (CH K) m (spU K enc pre f) [] E to tA σ H k :=
  ho H (Evl.Ex.refl H) _ fun H0 e0 => ⟨x.p, x.dx, _, rfl, (i.ex e0).ob, l, he H0 e0 _ fun vs H1 e hv => ⟨x, h, a, vs, by rw [List.append_nil], (i.ex e0).ex e, w, hp, hv, fun x' H' i' t => q x' H' i' ((To.ex x (e0.trans e)).trans t)⟩⟩
theorem evd_Po {res : House → α → PyData} (ho : Evl.Ev to σ H (.ref x.p)) (i : HAt K H x h) (w : WH h) (a : α) (hp : pre h a) (he : EvDs K tA σ H (enc a)) (l : (hfs x h).lookup m = none) :
    EvD K (tMeth (CH K) m (spP K enc pre res) [] E to tA) σ H (res h a) :=
  evd_meth ho i.ob l he fun vs H1 e hv Q q => ⟨x, h, a, vs, by rw [List.append_nil], i.ex e, w, hp, hv, q⟩
theorem evn_Po {res : House → α → List PyData} (ho : Evl.Ev to σ H (.ref x.p)) (i : HAt K H x h) (w : WH h) (a : α) (hp : pre h a) (he : EvDs K tA σ H (enc a)) (l : (hfs x h).lookup m = none) :
    EvN K (tMeth (CH K) m (spPN K enc pre res) [] E to tA) σ H (res h a) :=
  evn_meth ho i.ob l he fun vs H1 e hv Q q => ⟨x, h, a, vs, by rw [List.append_nil], i.ex e, w, hp, hv, q⟩
theorem Tick.of_ex {H H1 H' : Hp} {p : Addr} (e : Ex H H1) (t : Tick H1 p H') : Tick H p H' := ⟨t.1, fun b o n h => t.2 b o n (e b o h)⟩
/-- x[_law_take(pool, n)] -/
theorem c_pick {r : R2} {ta tl : TE} {i : Nat} {x : V} {n : Nat} {p : Addr} {k : VK} (ha : Evl.Ev ta σ H x) (hl : Evl.Ev tl σ H (.int (n : Int))) (h0 : σ[i]? = some (some (.ref p))) (hp : PoolAt H p) (n1 : 1 ≤ n) (n2 : n ≤ 1000000000)
    (q : ∀ (d : Nat) H', d < n → Tick H p H' → r x (.int (d : Int)) H' k) : tOp r ta (tCall spDigit [] E (tCons (tVar i) (tCons tl tNil))) σ H k :=
  ha H (Evl.Ex.refl H) _ fun H1 e1 => ⟨_, h0, hl H1 e1 _ fun H2 e2 => ⟨p, n, rfl, hp.ex (e1.trans e2), n1, n2, fun d H' hd t => q d H' hd (t.of_ex (e1.trans e2))⟩⟩
theorem q_mid {t u : TS} {D : Ends} (Mid : L2.St → Hp → Prop) (h1 : ∀ tz : TS, (∀ σ' H', Mid σ' H' → tz D σ' H') → tSeq t tz D σ H) (h2 : ∀ σ' H', Mid σ' H' → u D σ' H') : tSeq t u D σ H := h1 u h2
theorem s_ifE {b : Bool} {t : TT} {tu tw : TS} {D : Ends} (h : Evl.EvT t σ H b) (h1 : b = true → ∀ H1, Ex H H1 → tu D σ H1) (h2 : b = false → ∀ H1, Ex H H1 → tw D σ H1) : tIfS t tu tw D σ H := Evl.s_if h h1 h2
end
section
variable {K : PySem.W.Frag} {σ : L2.St} {H : Hp} {a : SA} {rd st : Nat}
/-- _law_scene[k], the heap as it was -/
theorem c_sc {i : Nat} {k : Str} {v : V} {q : VK} (h0 : σ[i]? = some (some (.ref a.sc))) (hs : H a.sc = some (.dK (scK a rd st))) (hv : valV (scK a rd st) (Sum.inr k) = some v) (h : q v H) : tDGet (tVar i) (tC (.str k)) σ H q := by
  have g := DGet.k (k := Sum.inr k) hs
  rw [hv] at g
  exact ⟨_, h0, a.sc, v, rfl, g, h⟩
theorem s_ifN {ty td : TE} {tu tw : TS} {D : Ends} (h : ty σ H fun y H1 => td σ H1 fun x H2 => ∃ a o, x = V.ref a ∧ DGet H2 a y o ∧ ∃ b, V.bl (!o.isSome) = V.bl b ∧ (if b = true then tu D σ H2 else tw D σ H2)) : tIfS (tB (tDNotIn ty td)) tu tw D σ H := h
theorem two_keep {a b : Addr} {o p : HO} {ks : List (Key × V)} {us : List V} (ha : H a = some (.dK ks)) (hb : H b = some (.lst us)) : Tups H (upd (upd H a o) b p) ∧ Frz H (upd (upd H a o) b p) := by
  constructor
  · intro c xs h
    rw [upd_ne (ne_of h hb (by intro z; cases z)), upd_ne (ne_of h ha (by intro z; cases z))]
    exact h
  · intro c u v h
    rw [upd_ne (ne_of h hb (by intro z; cases z)), upd_ne (ne_of h ha (by intro z; cases z))]
    exact h
theorem shp_post {L : List Nat} {D : Nat} {ls : List Letter} (h : ∀ l ∈ ls, LSz L D l) (nm : ∀ x ∈ L, NmOk x) : Shp 6 (.list (ls.map dL)) := (ShpA.map fun l hl => shp_dL (nm _ (h l hl).src) (nm _ (h l hl).dst)).lst
theorem who_at (d : Nat) (hd : d < 2) : ([.str "ann", .str "bob"] : List PyData)[d]? = some (.str (whoS (decide (d = 1)))) := by
  match d, hd with
  | 0, _ => kernel_rfl
  | 1, _ => kernel_rfl
end
/-- behind the deed, ahead of the post -/
structure Mid0 (K : PySem.W.Frag) (F : Hp) (a : SA) (L : List Nat) (D : Nat) (xs : Nat → HX) (w : Zab.World) (rd st : Nat) (l : Addr) (ls : List Letter) (H : Hp) : Prop where
  s : Sc K F H a L xs w rd st
  at_ : LstAt K H l (ls.map dL)
  ne : l ≠ a.po
  inv : ∀ e, (∀ k ∈ e, k ∈ ls) → e.length ≤ ls.length → WInv L (D + 1) st { w with post := w.post ++ e }
  rd : rd ≤ w.post.length
def spWoven (K : PySem.W.Frag) : Sp := fun vs H Q _ => ∃ (F : Hp) (a : SA) (L : List Nat) (xs : Nat → HX) (w : Zab.World) (D rd st : Nat) (wy : Addr) (ws : List Str), vs = [.ref a.p, .ref a.sc, .ref wy, .int 1] ∧ Sc K F H a L xs w rd st ∧ WInv L D st w ∧ LOk5 L ∧ D + 1 ≤ 500 ∧ rd ≤ w.post.length ∧
  Dp K F (.ref wy) (.list (ws.map .str)) ∧ 1 ≤ ws.length ∧ ws.length ≤ 1000 ∧ ∀ xs' w' rd' st' H', Sc K F H' a L xs' w' rd' st' → WInv L (D + 1) st' w' → rd' ≤ w'.post.length → Q .non H'
theorem sc_law_woven : FnScope ["_law_pool_here", "_law_scene", "_law_ways", "_law_many", "_law_turn", "_law_way", "_law_name", "_law_house", "_law_letters", "_law_letter"] ["_law_pool_here", "_law_scene", "_law_ways", "_law_many"] (defScope s_law_woven) := ⟨rfl, rfl, rfl, by decide +kernel, rfl, by decide +kernel, by decide +kernel⟩
section
variable {P : Program} {w : World} {K : PySem.W.Frag} {mg : Str → Option Value} {base : Heap}
theorem ok_law_woven (T : TX w K mg) : Cal P w K mg base 10 (He.ga K "_law_woven") ["_law_pool_here", "_law_scene", "_law_ways", "_law_many"] (spWoven K) [] := by
  have C_law_take := ok_law_take (P := P) (base := base) T
  have M_take := ok_take (P := P) (base := base) T
  have M_seek := ok_seek (P := P) (base := base) T
  have M_beat := ok_beat (P := P) (base := base) T
  have M_is_settled := ok_is_settled (P := P) (base := base) T
  have M_put := ok_put (P := P) (base := base) T
  have M_begin_anew := ok_begin_anew (P := P) (base := base) T
  refine cal_mk T 27 (d := d_law_woven) rfl rfl rfl sc_law_woven (fun vs H Q E z => by obtain ⟨F, a, L, xs, w, D, rd, st, wy, ws, z, _⟩ := z; rw [z]; rfl) (fun _ _ _ _ _ _ us hl => match us, hl with | [_, _, _, _], _ => rfl) fun cdv A outer s H vs Q E hr z => ?_
  obtain ⟨F, a, L, xs, w, D, rd, st, wy, ws, rfl, S, W, LO, hD, hrd, hwy, w1, w2, q⟩ := z
  refine ⟨_, (pss_one (ps_for PassesOwn.never rfl (pi_range1 (by rfl) T.b_range (pa_cons (pv 3) pa_nil)) (pg_name (i := 4) sc_law_woven.nd rfl (by first | exact Or.inl rfl | exact Or.inr rfl)) (pss_cons (ps_asg (pe_ix ix_list (pv 2) (pe_k C_law_take (hr.mono (by decide)) (by rfl) T.g_law_take (pa_cons (pv 0) (pa_cons (pe_callB call_len (by rfl) T.b_len PySem.boot_len (pa_cons (pv 2) pa_nil)) pa_nil))) (fun _ _ => rfl)) (pg_name (i := 5) sc_law_woven.nd rfl (by first | exact Or.inl rfl | exact Or.inr rfl)))
    (pss_cons (ps_asg (pe_ix ix_tup (pe_dget (u1 hr) (pv 1) pe_str (fun _ _ => rfl)) (pe_k C_law_take (hr.mono (by decide)) (by rfl) T.g_law_take (pa_cons (pv 0) (pa_cons (pe_callB call_len (by rfl) T.b_len PySem.boot_len (pa_cons (pe_dget (u1 hr) (pv 1) pe_str (fun _ _ => rfl)) pa_nil)) pa_nil))) (fun _ _ => rfl)) (pg_name (i := 6) sc_law_woven.nd rfl (by first | exact Or.inl rfl | exact Or.inr rfl)))
    (pss_cons (ps_asg (pe_dget (u1 hr) (pe_dget (u1 hr) (pv 1) pe_str (fun _ _ => rfl)) (pv 6) (fun _ _ => rfl)) (pg_name (i := 7) sc_law_woven.nd rfl (by first | exact Or.inl rfl | exact Or.inr rfl)))
    (pss_cons (ps_asg (pe_lst pa_nil) (pg_name (i := 8) sc_law_woven.nd rfl (by first | exact Or.inl rfl | exact Or.inr rfl)))
    (pss_cons (ps_if (PW.pt (pw_and (pt_cmpR op_eq (pv 5) pe_str (nomark _)) (pw_and1 (pt_cmpR op_lt (pe_dget (u1 hr) (pv 1) pe_str (fun _ _ => rfl)) (pe_callB call_len (by rfl) T.b_len PySem.boot_len (pa_cons (pe_dget (u1 hr) (pv 1) pe_str (fun _ _ => rfl)) pa_nil)) (nomark _))))) (pss_cons (ps_dput (u1 hr) (pv 1) pe_str (pe_op op_add (pe_dget (u1 hr) (pv 1) pe_str (fun _ _ => rfl)) pe_int) rfl)
    (pss_cons (ps_asg (pe_ix ix_list (pe_dget (u1 hr) (pv 1) pe_str (fun _ _ => rfl)) (pe_op op_sub (pe_dget (u1 hr) (pv 1) pe_str (fun _ _ => rfl)) pe_int) (fun _ _ => rfl)) (pg_name (i := 9) sc_law_woven.nd rfl (by first | exact Or.inl rfl | exact Or.inr rfl)))
    (pss_one (ps_asg (pe_m T.cls T.m_take M_take (hr.mono (by decide)) (pe_dget (u1 hr) (pe_dget (u1 hr) (pv 1) pe_str (fun _ _ => rfl)) (pe_ix ix_tup (pv 9) pe_int (fun _ _ => rfl)) (fun _ _ => rfl)) (pa_cons (pv 9) pa_nil)) (pg_name (i := 8) sc_law_woven.nd rfl (by first | exact Or.inl rfl | exact Or.inr rfl)))))) (pss_one (ps_if (PW.pt (pw_and (pt_cmpR op_eq (pv 5) pe_str (nomark _)) (pw_and1 (pt_cmpR (op_neD (hr.units)) (pe_dget (u1 hr) (pv 1) pe_str (fun _ _ => rfl)) (pe_lst pa_nil) (nomark _))))) (pss_cons (ps_asg (pe_ix ix_list (pe_dget (u1 hr) (pv 1) pe_str (fun _ _ => rfl)) (pe_k C_law_take (hr.mono (by decide)) (by rfl) T.g_law_take (pa_cons (pv 0) (pa_cons (pe_callB call_len (by rfl) T.b_len PySem.boot_len (pa_cons (pe_dget (u1 hr) (pv 1) pe_str (fun _ _ => rfl)) pa_nil)) pa_nil))) (fun _ _ => rfl)) (pg_name (i := 9) sc_law_woven.nd rfl (by first | exact Or.inl rfl | exact Or.inr rfl)))
    (pss_one (ps_asg (pe_m T.cls T.m_take M_take (hr.mono (by decide)) (pe_dget (u1 hr) (pe_dget (u1 hr) (pv 1) pe_str (fun _ _ => rfl)) (pe_ix ix_tup (pv 9) pe_int (fun _ _ => rfl)) (fun _ _ => rfl)) (pa_cons (pv 9) pa_nil)) (pg_name (i := 8) sc_law_woven.nd rfl (by first | exact Or.inl rfl | exact Or.inr rfl))))) (pss_one (ps_if (pt_cmpR op_eq (pv 5) pe_str (nomark _)) (pss_one (ps_asg (pe_m0 T.cls T.m_seek M_seek (hr.mono (by decide)) (pv 7)) (pg_name (i := 8) sc_law_woven.nd rfl (by first | exact Or.inl rfl | exact Or.inr rfl)))) (pss_one (ps_if (pt_cmpR op_eq (pv 5) pe_str (nomark _)) (pss_one (ps_asg (pe_m0 T.cls T.m_beat M_beat (hr.mono (by decide)) (pv 7)) (pg_name (i := 8) sc_law_woven.nd rfl (by first | exact Or.inl rfl | exact Or.inr rfl)))) (pss_one (ps_if (PW.pt (pw_and (pt_cmpR op_eq (pv 5) pe_str (nomark _)) (pw_and1 (pt_val (pe_m0 T.cls T.m_is_settled M_is_settled (hr.mono (by decide)) (pv 7)))))) (pss_cons (ps_dput (u1 hr) (pv 1) pe_str (pe_op op_add (pe_dget (u1 hr) (pv 1) pe_str (fun _ _ => rfl)) pe_int) rfl)
    (pss_one (ps_asg (pe_m T.cls T.m_put M_put (hr.mono (by decide)) (pv 7) (pa_cons (pe_tup (pa_cons pe_str (pa_cons (pe_ix ix_list (pe_lst (pa_cons pe_str (pa_cons pe_str pa_nil))) (pe_k C_law_take (hr.mono (by decide)) (by rfl) T.g_law_take (pa_cons (pv 0) (pa_cons pe_int pa_nil))) (fun _ _ => rfl)) (pa_cons (pe_dget (u1 hr) (pv 1) pe_str (fun _ _ => rfl)) (pa_cons (pe_tup (pa_cons pe_str pa_nil)) pa_nil))))) pa_nil)) (pg_name (i := 8) sc_law_woven.nd rfl (by first | exact Or.inl rfl | exact Or.inr rfl))))) (pss_one (ps_if (pt_cmpR op_eq (pv 5) pe_str (nomark _)) (pss_one (ps_expr (pe_m0 T.cls T.m_begin_anew M_begin_anew (hr.mono (by decide)) (pv 7)))) pss_nil)))))))))))
    (pss_one (ps_for PassesOwn.never rfl (pi_list (pv 8)) (pg_name (i := 9) sc_law_woven.nd rfl (by first | exact Or.inl rfl | exact Or.inr rfl)) (pss_one (ps_if (pt_cmp (pc_dnotin (u1 hr) (pe_callB (cr_reprW (hr.units)) (by rfl) T.b_repr bt_repr (pa_cons (pv 9) pa_nil)) (pe_dget (u1 hr) (pv 1) pe_str (fun _ _ => rfl)))) (pss_cons (ps_dput (u1 hr) (pe_dget (u1 hr) (pv 1) pe_str (fun _ _ => rfl)) (pe_callB (cr_reprW (hr.units)) (by rfl) T.b_repr bt_repr (pa_cons (pv 9) pa_nil)) pe_bl rfl)
    (pss_one (ps_expr (pe_bm PySem.F.plainAttrs_list PySem.F.slot_list_append PySem.F.type_list_append mt_append (pe_dget (u1 hr) (pv 1) pe_str (fun _ _ => rfl)) (pa_cons (pv 9) pa_nil))))) pss_nil))))))))))), ?_⟩
  let Pv : Nat → L2.St → Hp → Prop := fun i σ' H' => match i with
    | 0 => σ' = start ["_law_pool_here", "_law_scene", "_law_ways", "_law_many", "_law_turn", "_law_way", "_law_name", "_law_house", "_law_letters", "_law_letter"] [.ref a.p, .ref a.sc, .ref wy, .int 1] ∧ Sc K F H' a L xs w rd st
    | _ + 1 => ∃ xs' w' rd' st', Sc K F H' a L xs' w' rd' st' ∧ WInv L (D + 1) st' w' ∧ rd' ≤ w'.post.length
  refine Evl.s_forR1 (n := 1) (Evl.ea_cons (Evl.ev_var (by rfl)) Evl.ea_nil) (by decide) Pv (fun H1 e1 => ⟨rfl, S.exn e1⟩) (fun i σ' H' hi p => ?_) (fun σ' H' p => ?_)
  case refine_2 =>
    obtain ⟨xs', w', rd', st', h1, h2, h3⟩ := p
    exact q xs' w' rd' st' H' h1 h2 h3
  have hi0 : i = 0 := by omega
  subst hi0
  obtain ⟨rfl, s0⟩ := p
  show tSeq _ _ _ _ _
  simp only [L2.start, List.map_cons, List.map_nil, List.length_cons, List.length_nil, List.replicate_succ, List.replicate_zero, List.cons_append, List.nil_append, List.set_cons_zero, List.set_cons_succ, Nat.reduceAdd, Nat.reduceSub]
  clear S
  -- the way
  have dwy := dp_ex s0.ex hwy
  refine c_asg (c_pick (Evl.ev_var (by rfl)) (ev_int ((evd_lenL (evd_var (i := 2) dwy (by rfl))).to (by rw [List.length_map]))) (by rfl) s0.pl w1 (by omega) fun d H1 hd t1 => ?_)
  have s1 := s0.tick t1
  obtain ⟨wv, hwv⟩ : ∃ wv, ws[d]? = some wv := ⟨ws[d], List.getElem?_eq_getElem hd⟩
  refine rd_ixL (K := K) (d := .str wv) (atI_nat (by rw [List.getElem?_map, hwv]; rfl)) H1 _ _ (dp_ex s1.ex hwy) (.int _) _ fun v H2 e2 hv => ?_
  rw [dp_str hv]
  show tSeq _ _ _ _ _
  simp only [L2.start, List.map_cons, List.map_nil, List.length_cons, List.length_nil, List.replicate_succ, List.replicate_zero, List.cons_append, List.nil_append, List.set_cons_zero, List.set_cons_succ, Nat.reduceAdd, Nat.reduceSub]
  have s2 := s1.exn e2
  -- the house
  have hL1 : 1 ≤ L.length := LO.ok.one
  have hL5 := LO.le
  refine c_asg (c_pick (ev_sc s2 (i := 1) (by rfl) v_members) (ev_int ((evd_lenT (evd_ev (ev_sc s2 (i := 1) (by rfl) v_members) (.tup s2.mt (dpA_names L)))).to (by rw [List.length_map]))) (by rfl) s2.pl hL1 (by omega) fun d3 H3 hd3 t3 => ?_)
  have s3 := s2.tick t3
  obtain ⟨n, hn⟩ : ∃ n, L[d3]? = some n := ⟨L[d3], List.getElem?_eq_getElem hd3⟩
  have hnL := List.mem_of_getElem? hn
  refine rd_ixT (K := K) (d := dN n) (atI_nat (by rw [List.getElem?_map, hn]; rfl)) H3 _ _ (.tup s3.mt (dpA_names L)) (.int _) _ fun v4 H4 e4 hv4 => ?_
  rw [dp_str hv4]
  show tSeq _ _ _ _ _
  simp only [L2.start, List.map_cons, List.map_nil, List.length_cons, List.length_nil, List.replicate_succ, List.replicate_zero, List.cons_append, List.nil_append, List.set_cons_zero, List.set_cons_succ, Nat.reduceAdd, Nat.reduceSub]
  have s4 := s3.exn e4
  refine Evl.q_asg (ev_house s4 hnL (i := 1) (by rfl) (evd_var (i := 6) (.str _) (by rfl))) fun H5 e5 => ?_
  have s5 := s4.exn e5
  refine q_asgN (K := K) (evn_lst eds_nil) fun p8 H6 hp8 e6 l8 => ?_
  simp only [L2.start, List.map_cons, List.map_nil, List.length_cons, List.length_nil, List.replicate_succ, List.replicate_zero, List.cons_append, List.nil_append, List.set_cons_zero, List.set_cons_succ, Nat.reduceAdd, Nat.reduceSub]
  have s6 := s5.exn e6
  have ne8 : p8 ≠ a.po := fun z => by obtain ⟨us, u1, _⟩ := s5.po; rw [← z, hp8] at u1; cases u1
  have hM5 := LO.le
  have nmL := LO.ok.nm
  have wz := fun x (hx : x ∈ L) => W.hz x hx
  have whx := fun x (hx : x ∈ L) => hsz_wh (wz x hx).1 (wz x hx).2 hM5 (show D ≤ 500 by omega)
  have fz := fun x (hx : x ∈ L) => (wz x hx).2
  have nmx : ∀ x ∈ L, (w.hs x).nm = x := fun x hx => by
    obtain ⟨G, _, _, hH, _⟩ := W.ex
    exact (hH x hx).nm
  have no8 : ∀ m ∈ L, ¬ Own (xs m) p8 := fun m hm => (s5.hs.at_ m hm).new hp8
  clear s0 s1 s2 s3 s4 s5 dwy
  refine q_mid (fun σ' H' => ∃ x9 xs' w' rd' st' l ls, σ' = [some (.ref a.p), some (.ref a.sc), some (.ref wy), some (.int 1), some (.int ((0 : Nat) : Int)), some (.str wv), some (.str (nS n)), some (.ref (xs n).p), some (.ref l), x9] ∧ Mid0 K F a L D xs' w' rd' st' l ls H') (fun tz fin => ?_) (fun σ' H' md => ?_)
  · have idle : ∀ H', Ex H6 H' → tz _ _ H' := fun H' e => fin _ H' ⟨none, xs, w, rd, st, p8, [], rfl, s6.exn e, l8.ex e, ne8, fun e he hl => by
      have : e = [] := List.length_eq_zero_iff.mp (Nat.le_zero.mp hl)
      subst this
      rw [List.append_nil]
      exact idle_w W, hrd⟩
    have po6 : ∀ {H'} {p : Addr}, Ex H6 H' → H' p = none → p ≠ a.po := fun {H' p} e hp z => by
      obtain ⟨us, u1, _⟩ := (s6.exn e).po
      rw [← z, hp] at u1
      cases u1
    have lenP : w.post.length ≤ 2000000 := by have := W.pz; omega
    have app : ∀ {ls e : List Letter}, (∀ k ∈ e, k ∈ ls) → ∀ k ∈ w.post ++ e, k ∈ w.post ∨ k ∈ ls := fun {ls e} h k hk => (List.mem_append.mp hk).imp id (h k)
    have apl : ∀ {ls e : List Letter}, e.length ≤ ls.length → (w.post ++ e).length ≤ w.post.length + ls.length := fun {ls e} h => by rw [List.length_append]; omega
    -- a letter is taken
    have give : ∀ {H7 : Hp} {rd7 : Nat} {l : Letter} {v : V}, Sc K F H7 a L xs w rd7 st → l ∈ w.post → rd7 ≤ w.post.length → Dp K H7 v (dL l) →
        ∀ D : Ends, (∀ σ' H', (∃ x9 xs' w' rd' st' l ls, σ' = [some (.ref a.p), some (.ref a.sc), some (.ref wy), some (.int 1), some (.int ((0 : Nat) : Int)), some (.str wv), some (.str (nS n)), some (.ref (xs n).p), some (.ref l), x9] ∧ Mid0 K F a L _ xs' w' rd' st' l ls H') → D.nx σ' H') →
        tAsg (tMeth (CH K) "take" (spTake K) [] E0 (tDGet (tDGet (tVar 1) (tC (.str "houses"))) (tOp (rIxT K) (tVar 9) (tC (.int 2)))) (tCons (tVar 9) tNil)) (gName 8) D
          [some (.ref a.p), some (.ref a.sc), some (.ref wy), some (.int 1), some (.int ((0 : Nat) : Int)), some (.str wv), some (.str (nS n)), some (.ref (xs n).p), some (.ref p8), some v] H7 := fun {H7 rd7 l v} s7 hl hr7 d7 DD fin => by
      have lz := W.lz l hl
      have d7' : Dp K H7 v (.tuple (dLs l)) := d7
      refine c_asg1 (c_Mo (m := "take") (f := fun h l => h.take l) (ev_house s7 lz.dst (i := 1) (by rfl) (evd_op (evd_var (i := 9) d7' (by rfl)) evd_int (rd_ixT (d := dN l.dst) (atI_nat (k := 2) rfl)))) (s7.hs.at_ _ lz.dst) (whx _ lz.dst) l (lsz_take lz (wz _ lz.dst).1 (fz _ lz.dst) (nmx _ lz.dst) nmL hM5 (by omega)) (eds_one (evd_var (i := 9) d7 (by rfl))) (by kernel_rfl) fun pl x' H' i' t hn no l' => ?_)
      refine fin _ H' ⟨_, _, _, rd7, st, pl, _, rfl, s7.to lz.dst t i', l', fun z => ?_, fun e he hle => take_w W hM5 hD hl (app he) (apl hle), hr7⟩
      obtain ⟨us, u1, _⟩ := s7.po
      rw [← z, hn] at u1
      cases u1
    refine q_if (Evl.et_and (et_t (K := K) (evd_op (evd_var (i := 5) (.str _) (by rfl)) evd_str (rd_eqS (a := wv) (b := "next")))) fun _ => et_t (K := K) (evd_op (evd_ev (ev_sc s6 (i := 1) (by rfl) v_read) (.int _)) (evd_lenL (evd_ev (ev_sc s6 (i := 1) (by rfl) v_post) s6.po.dp)) (rd_I0 fun H => .bl _))) (fun c H7 e7 => ?_) fun _ H7 e7 => ?_
    · obtain ⟨_, c2⟩ := Bool.and_eq_true_iff.mp c
      have c2 := of_decide_eq_true c2
      rw [List.length_map] at c2
      have s7 := s6.exn e7
      refine c_dput ?_
      refine (evd_op (z := .int ((rd + 1 : Nat) : Int)) (evd_ev (K := K) (ev_sc s7 (i := 1) (by rfl) v_read) (.int _)) evd_int (rd_I0 fun H => by rw [show ((rd : Int) + 1) = ((rd + 1 : Nat) : Int) from by omega]; exact .int _)) H7 (Evl.Ex.refl _) _ fun v8 H8 e8 d8 => ?_
      rw [dp_int d8]
      have s8 := s7.exn e8
      refine c_var (i := 1) (c_c ⟨a.sc, _, rfl, DPut.k (k := Sum.inr "read") s8.sc (by show 6 < sizeLine; rw [sizeLine_eq]; decide), ?_⟩) (by rfl)
      rw [put_read]
      have s9 := s8.put (rd' := rd + 1) (st' := st)
      obtain ⟨l, hl⟩ : ∃ l, w.post[rd]? = some l := ⟨w.post[rd]'(by omega), List.getElem?_eq_getElem (by omega)⟩
      refine q_asgD (K := K) (d := dL l) (evd_op (evd_ev (ev_sc s9 (i := 1) (by rfl) v_post) s9.po.dp) (evd_op (z := .int (rd : Int)) (evd_ev (ev_sc s9 (i := 1) (by rfl) v_read) (.int _)) evd_int (rd_I0 fun H => by rw [show (((rd + 1 : Nat) : Int) - 1) = (rd : Int) from by omega]; exact .int _)) (rd_ixL (d := dL l) (atI_nat (by rw [List.getElem?_map, hl]; rfl)))) fun v10 H10 e10 d10 => ?_
      simp only [L2.start, List.map_cons, List.map_nil, List.length_cons, List.length_nil, List.replicate_succ, List.replicate_zero, List.cons_append, List.nil_append, List.set_cons_zero, List.set_cons_succ, Nat.reduceAdd, Nat.reduceSub]
      exact give (s9.exn e10) (List.mem_of_getElem? hl) (by omega) d10 _ fin
    refine s_ifE (Evl.et_and (et_t (K := K) (evd_op (evd_var (i := 5) (.str _) (by rfl)) evd_str (rd_eqS (a := wv) (b := "give")))) fun _ => et_t (K := K) (evd_op (evd_ev (ev_sc (s6.exn e7) (i := 1) (by rfl) v_post) (s6.exn e7).po.dp) (EvN.d (evn_lst eds_nil)) (rd_neD (shp_post W.lz nmL) (ShpA.nil 0).lst))) (fun c H8 e8 => ?_) fun _ H8 e8 => ?_
    · obtain ⟨_, c2⟩ := Bool.and_eq_true_iff.mp c
      rw [eqv_nil] at c2
      have c3 : 1 ≤ w.post.length := by
        cases z : w.post with
        | nil => rw [z] at c2; cases c2
        | cons _ _ => simp
      have s8 := (s6.exn e7).exn e8
      refine c_asg (c_pick (ev_sc s8 (i := 1) (by rfl) v_post) (ev_int ((evd_lenL (evd_ev (ev_sc s8 (i := 1) (by rfl) v_post) s8.po.dp)).to (by rw [List.length_map]))) (by rfl) s8.pl c3 (by omega) fun d9 H9 hd9 t9 => ?_)
      have s9 := s8.tick t9
      obtain ⟨l, hl⟩ : ∃ l, w.post[d9]? = some l := ⟨w.post[d9], List.getElem?_eq_getElem hd9⟩
      refine rd_ixL (K := K) (d := dL l) (atI_nat (by rw [List.getElem?_map, hl]; rfl)) H9 _ _ s9.po.dp (.int _) _ fun v10 H10 e10 d10 => ?_
      show tAsg _ _ _ _ _
      simp only [L2.start, List.map_cons, List.map_nil, List.length_cons, List.length_nil, List.replicate_succ, List.replicate_zero, List.cons_append, List.nil_append, List.set_cons_zero, List.set_cons_succ, Nat.reduceAdd, Nat.reduceSub]
      exact give (s9.exn e10) (List.mem_of_getElem? hl) hrd d10 _ fin
    have E8 := e7.trans e8
    refine s_ifE (et_t (K := K) (evd_op (evd_var (i := 5) (.str _) (by rfl)) evd_str (rd_eqS (a := wv) (b := "seek")))) (fun _ H9 e9 => ?_) fun _ H9 e9 => ?_
    · have E9 := E8.trans e9
      have s9 := s6.exn E9
      refine c_asg1 (c_Mo (m := "seek") (f := fun h (_ : Unit) => h.seek) (Evl.ev_var (by rfl)) (s9.hs.at_ n hnL) (whx n hnL) () (show (w.hs n).fresh ≤ 10000000 by have := fz n hnL; omega) eds_nil (by kernel_rfl) fun pl x' H' i' t hn no l' => ?_)
      exact fin _ H' ⟨_, _, _, rd, st, pl, _, rfl, s9.to hnL t i', l', po6 E9 hn, fun e he hle => seek_w W hM5 hD hnL (app he) (apl hle), hrd⟩
    have E9 := E8.trans e9
    refine s_ifE (et_t (K := K) (evd_op (evd_var (i := 5) (.str _) (by rfl)) evd_str (rd_eqS (a := wv) (b := "beat")))) (fun _ H10 e10 => ?_) fun _ H10 e10 => ?_
    · have E10 := E9.trans e10
      have s10 := s6.exn E10
      refine c_asg1 (c_Mo (m := "beat") (f := fun h (_ : Unit) => h.beat) (Evl.ev_var (by rfl)) (s10.hs.at_ n hnL) (whx n hnL) () trivial eds_nil (by kernel_rfl) fun pl x' H' i' t hn no l' => ?_)
      exact fin _ H' ⟨_, _, _, rd, st, pl, _, rfl, s10.to hnL t i', l', po6 E10 hn, fun e he hle => beat_w W hM5 hD hnL (app he) (apl hle), hrd⟩
    have E10 := E9.trans e10
    have s10 := s6.exn E10
    refine s_ifE (Evl.et_and (et_t (K := K) (evd_op (evd_var (i := 5) (.str _) (by rfl)) evd_str (rd_eqS (a := wv) (b := "put")))) fun _ => et_t (K := K) (evd_Po (m := "is_settled") (res := fun h (_ : Unit) => .bool h.settled) (Evl.ev_var (by rfl)) (s10.hs.at_ n hnL) (whx n hnL) () trivial eds_nil (by kernel_rfl))) (fun c H11 e11 => ?_) fun _ H11 e11 => ?_
    · obtain ⟨_, c2⟩ := Bool.and_eq_true_iff.mp c
      have s11 := s10.exn e11
      refine c_dput ?_
      refine (evd_op (z := .int ((st + 1 : Nat) : Int)) (evd_ev (K := K) (ev_sc s11 (i := 1) (by rfl) v_stamp) (.int _)) evd_int (rd_I0 fun H => by rw [show ((st : Int) + 1) = ((st + 1 : Nat) : Int) from by omega]; exact .int _)) H11 (Evl.Ex.refl _) _ fun v12 H12 e12 d12 => ?_
      rw [dp_int d12]
      have s12 := s11.exn e12
      refine c_var (i := 1) (c_c ⟨a.sc, _, rfl, DPut.k (k := Sum.inr "stamp") s12.sc (by show 6 < sizeLine; rw [sizeLine_eq]; decide), ?_⟩) (by rfl)
      rw [put_stamp]
      have s13 := s12.put (rd' := rd) (st' := st + 1)
      generalize L2.upd H12 a.sc (.dK (scK a rd (st + 1))) = H13 at s13 ⊢
      refine c_asg1 ?_
      refine ⟨.ref (xs n).p, rfl, (xs n).p, (xs n).dx, _, rfl, (s13.hs.at_ n hnL).ob, by kernel_rfl, ?_⟩
      refine c_cons (c_tup (c_cons (c_c (c_cons (c_rgl ?_)))))
      refine (evn_lst (K := K) (eds_cons evd_str (eds_one evd_str))) H13 (Evl.Ex.refl _) _ fun l14 H14 hl14 e14 a14 => ?_
      have s14 := s13.exn e14
      refine c_call (c_cons (c_var (i := 0) (c_cons (c_c (c_nil ⟨a.p, 2, rfl, s14.pl, by decide, by decide, fun d H15 hd15 t15 => ?_⟩))) (by rfl)))
      have s15 := s14.tick t15
      obtain ⟨us14, u1, u2⟩ := a14
      have ne14 : l14 ≠ a.p := fun z => by obtain ⟨cc, sd, y, _⟩ := s13.pl; rw [← z, hl14] at y; cases y
      have u1' := t15.2 l14 _ ne14 u1
      have u2' := dpA_keep (t15.tups s14.pl) (t15.frz s14.pl) (imm_two (.str _) (.str _)) u2
      refine rd_ixL (K := K) (ds := [.str "ann", .str "bob"]) (d := .str (whoS (decide (d = 1)))) (atI_nat (who_at d hd15)) H15 _ _ (.lst (SqL.of u1') u2') (.int _) _ fun v16 H16 e16 d16 => ?_
      rw [dp_str d16]
      have s16 := s15.exn e16
      refine (eds_cons (evd_ev (K := K) (ev_sc s16 (i := 1) (by rfl) v_stamp) (.int _)) (eds_one (evd_tup (eds_one (evd_str (i := "bring"))) (by show 1 ≤ 100000; decide)))) H16 (Evl.Ex.refl _) _ fun vs17 H17 e17 d17 => ?_
      obtain ⟨y1, y2, rfl, g1, g2⟩ := dpA2 d17
      refine ⟨Evl.sz_of (show 4 ≤ 100000 by decide), fun q18 hq18 => ?_⟩
      have e18 := Evl.Ex.new (o := HO.tup [V.str "ask", V.str (whoS (decide (d = 1))), y1, y2]) hq18
      have s18 := (s16.exn e17).exn e18
      refine c_nil ⟨xs n, w.hs n, ((decide (d = 1), st + 1) : Ent), [.ref q18], rfl, s18.hs.at_ n hnL, whx n hnL, ⟨by have := fz n hnL; omega, by have := (wz n hnL).1.row.1; omega, by have := dic_len (wz n hnL).1.tks; omega, by show 1 ≤ st + 1; omega, c2⟩, dpA_one (.tup (SqT.of upd_same) (.cons (.str _) (.cons (.str _) (.cons (dp_ex e18 g1) (.cons (dp_ex e18 g2) .nil))))), fun pl x' H' i' t hn no l' => ?_⟩
      refine fin _ H' ⟨_, _, _, rd, st + 1, pl, _, rfl, s18.to hnL t i', l', fun z => ?_, fun e he hle => put_w W hM5 hD hnL c2 _ (app he) (apl hle), hrd⟩
      obtain ⟨us, u1, _⟩ := s18.po
      rw [← z, hn] at u1
      cases u1
    have E11 := E10.trans e11
    refine s_ifE (et_t (K := K) (evd_op (evd_var (i := 5) (.str _) (by rfl)) evd_str (rd_eqS (a := wv) (b := "anew")))) (fun _ H12 e12 => ?_) fun _ H12 e12 => ?_
    · have E12 := E11.trans e12
      have s12 := s6.exn E12
      refine c_drop1 (c_Uo (m := "begin_anew") (f := fun h (_ : Unit) => h.beginAnew) (Evl.ev_var (by rfl)) (s12.hs.at_ n hnL) (whx n hnL) () trivial eds_nil (by kernel_rfl) fun x' H' i' t => ?_)
      have hk : LstAt K H' p8 ([] : List PyData) := by
        obtain ⟨us, u1, u2⟩ := l8.ex E12
        rw [dpA0 u2] at u1
        exact ⟨[], t.keep _ _ u1 (no8 n hnL), .nil⟩
      exact fin _ H' ⟨_, _, _, rd, st, p8, [], rfl, s12.to hnL t i', hk, ne8, fun e he hl => by
        have : e = [] := List.length_eq_zero_iff.mp (Nat.le_zero.mp hl)
        subst this
        rw [List.append_nil]
        exact anew_w W hM5 hD hnL, hrd⟩
    · exact idle H12 (E11.trans e12)
  · obtain ⟨x9, xs', w', rd', st', l, ls, rfl, M⟩ := md
    obtain ⟨vs, hv1, hv2⟩ := M.at_
    have hvl : vs.length = ls.length := by rw [dpA_len hv2, List.length_map]
    refine Evl.s_forL (a := l) (xs := vs) (Evl.ev_var (by rfl)) (SqL.of hv1) (fun i σ' H'' => ∃ x9 e, σ' = [some (.ref a.p), some (.ref a.sc), some (.ref wy), some (.int 1), some (.int ((0 : Nat) : Int)), some (.str wv), some (.str (nS n)), some (.ref (xs n).p), some (.ref l), x9] ∧
      Sc K F H'' a L xs' { w' with post := w'.post ++ e } rd' st' ∧ (∀ k ∈ e, k ∈ ls) ∧ e.length ≤ i ∧ H'' l = some (.lst vs) ∧ DpAll K H'' vs (ls.map dL)) (fun H1 e1 => ⟨x9, [], rfl, by rw [List.append_nil]; exact M.s.exn e1, fun k hk => (by cases hk), Nat.le_refl _, e1 _ _ hv1, dpA_ex e1 hv2⟩) (fun i σ' H'' _ z => by
        obtain ⟨_, _, _, _, _, _, z, _⟩ := z
        exact SqL.of z) (fun i x σ' H'' hx z => ?_) (fun σ' H'' z => ?_)
    · obtain ⟨x9, e, rfl, s, he, hei, hl, hd⟩ := z
      obtain ⟨d, hd1, hxd⟩ := dpA_get' hd hx
      rw [List.getElem?_map] at hd1
      obtain ⟨k, hk, rfl⟩ := Option.map_eq_some_iff.mp hd1
      have hkm := List.mem_of_getElem? hk
      have hil : i < ls.length := by
        have := (List.getElem?_eq_some_iff.mp hk).1
        exact this
      have lz := (M.inv ls (fun _ h => h) (Nat.le_refl _)).lz k (List.mem_append_right _ hkm)
      have pz := (M.inv e he (by omega)).pz
      obtain ⟨r1, r2, r3⟩ := show_dL lz nmL (by omega)
      have hxd' : Dp K H'' x (.tuple (dLs k)) := hxd
      show tIfS _ _ _ _ _ _
      simp only [L2.start, List.map_cons, List.map_nil, List.length_cons, List.length_nil, List.replicate_succ, List.replicate_zero, List.cons_append, List.nil_append, List.set_cons_zero, List.set_cons_succ, Nat.reduceAdd, Nat.reduceSub]
      refine s_ifN (c_cb (c_cons (c_var (i := 9) (c_nil ⟨x, dLs k, rfl, hxd', r1, r2, r3, fun t ht => ?_⟩) (by rfl))))
      obtain ⟨ks, k1, k2⟩ := s.kn
      refine c_sc (i := 1) (by rfl) s.sc v_known ⟨a.kn, valV ks (Sum.inr t), rfl, DGet.k (k := Sum.inr t) k1, _, rfl, ?_⟩
      have pz : (w'.post ++ e).length ≤ 4000 * (D + 1) := pz
      have k2 : ks.length ≤ (w'.post ++ e).length := k2
      split
      · refine c_dput (c_c (c_sc (i := 1) (by rfl) s.sc v_known (c_cb (c_cons (c_var (i := 9) (c_nil ⟨x, dLs k, rfl, hxd', r1, r2, r3, fun t' ht' => ?_⟩) (by rfl))))))
        refine ⟨a.kn, _, rfl, DPut.k (k := Sum.inr t') k1 (by rw [sizeLine_eq]; omega), ?_⟩
        obtain ⟨ps, p1, p2⟩ := s.po
        obtain ⟨⟨n1, n2, n3, n4, n5, n6⟩, ⟨n7, n8, n9, n10, n11⟩, ⟨n12, n13, n14, n15⟩, ⟨n16, n17, n18⟩, ⟨n19, n20⟩, n21⟩ := nd7.mp s.nd
        have hps : ps.length = (w'.post ++ e).length := by rw [dpA_len p2, List.length_map]
        have sc1 : (upd H'' a.kn (.dK (putK ks (Sum.inr t') (.bl true)))) a.sc = some (.dK (scK a rd' st')) := by rw [upd_ne n3]; exact s.sc
        have po1 : (upd H'' a.kn (.dK (putK ks (Sum.inr t') (.bl true)))) a.po = some (.lst ps) := by rw [upd_ne n12]; exact p1
        refine c_drop1 (c_sc (i := 1) (by rfl) sc1 v_post ⟨.inl ⟨rfl, ps, .of po1⟩, c_cons (c_var (i := 9) (c_nil ⟨a.po, ps, x, rfl, rfl, po1, by rw [sizeLine_eq]; omega, ?_⟩) (by rfl))⟩)
        have hpk : (putK ks (Sum.inr t') (.bl true)).length ≤ (w'.post ++ e).length + 1 := by
          unfold putK
          split
          · rw [List.length_map]; omega
          · rw [List.length_append]; show ks.length + 1 ≤ _; omega
        have s' := s.know hpk p1 hxd
        obtain ⟨tu, fr⟩ := two_keep (o := HO.dK (putK ks (Sum.inr t') (.bl true))) (p := HO.lst (ps ++ [x])) k1 p1
        refine ⟨some x, e ++ [k], rfl, ?_, fun y hy => ?_, by rw [List.length_append]; show e.length + 1 ≤ i + 1; omega, ?_, dpA_keep tu fr (imm_post _) hd⟩
        · rw [← List.append_assoc]
          exact s'
        · rcases List.mem_append.mp hy with z | z
          · exact he y z
          · rw [List.mem_singleton.mp z]; exact hkm
        · rw [upd_ne M.ne, upd_ne (ne_of hl k1 (by intro z; cases z))]
          exact hl
      · exact ⟨some x, e, rfl, s, he, by omega, hl, hd⟩
    · obtain ⟨x9, e, rfl, s, he, hei, hl, hd⟩ := z
      rw [hvl] at hei
      exact ⟨xs', _, rd', st', s, M.inv e he hei, by have := M.rd; show rd' ≤ (w'.post ++ e).length; rw [List.length_append]; omega⟩
end
end Wn

set_option Elab.async false
set_option linter.all false
set_option maxRecDepth 100000
set_option maxHeartbeats 4000000
/-! the law's look at the scene. -/
namespace Wn
open PySem PySem.Spec PyProof.Rows L2
open Zab hiding World Place Row
theorem beg_iff {r s : Row} : s.take r.length = r ↔ r <+: s := by
  rw [List.prefix_iff_eq_take]
  exact ⟨fun h => h.symm, fun h => h.symm⟩
theorem prefix_of_not {r s : Row} (h : decide (s.take r.length = r) = false) : ¬ r <+: s := fun z => of_decide_eq_false h (beg_iff.mpr z)
theorem len_of_prefix {r s : Row} (h : r <+: s) : r.length ≤ s.length := h.length_le
def spRight (K : PySem.W.Frag) : Sp := fun vs H Q _ => ∃ (F : Hp) (a : SA) (L : List Nat) (xs : Nat → HX) (w : Zab.World) (D rd st : Nat), vs = [.ref a.sc, .ref a.ll] ∧ Sc K F H a L xs w rd st ∧ WInv L D st w ∧ LOk5 L ∧ D ≤ 500 ∧ w.long.length ≤ 1000 ∧
  ∀ lr r H', Sc K F H' { a with lr := lr } L xs { w with long := r } rd st → WInv L D st { w with long := r } → r.length ≤ 1000 → Q (.bl true) H'
theorem sc_law_right : FnScope ["_law_scene", "_law_longest", "_law_name", "_law_house", "_law_row", "_law_leads", "_law_other"] ["_law_scene", "_law_longest"] (defScope s_law_right) := ⟨rfl, rfl, rfl, by decide +kernel, rfl, by decide +kernel, by decide +kernel⟩
section
variable {P : Program} {w : World} {K : PySem.W.Frag} {mg : Str → Option Value} {base : Heap}
theorem ok_law_right (T : TX w K mg) : Cal P w K mg base 4 (He.ga K "_law_right") ["_law_scene", "_law_longest"] (spRight K) [] := by
  have C_is_beginning := ok_is_beginning (P := P) (base := base) T
  have M_done_row := ok_done_row (P := P) (base := base) T
  have M_is_settled := ok_is_settled (P := P) (base := base) T
  have M_row := ok_row (P := P) (base := base) T
  have M_promised := ok_promised (P := P) (base := base) T
  have M_epoch := ok_epoch (P := P) (base := base) T
  refine cal_mk T 29 (d := d_law_right) rfl rfl rfl sc_law_right (fun vs H Q E z => by obtain ⟨F, a, L, xs, w, D, rd, st, z, _⟩ := z; rw [z]; rfl) (fun _ _ _ _ _ _ us hl => match us, hl with | [_, _], _ => rfl) fun cdv A outer s H vs Q E hr z => ?_
  obtain ⟨F, a, L, xs, w, D, rd, st, rfl, S, W, LO, hD, hlong, q⟩ := z
  have hM5 := LO.le
  have wz := fun x (hx : x ∈ L) => W.hz x hx
  have whx := fun x (hx : x ∈ L) => hsz_wh (wz x hx).1 (wz x hx).2 hM5 hD
  have rowx : ∀ x ∈ L, (w.hs x).row.length ≤ 500 := fun x hx => by have := (wz x hx).1.row.1; omega
  have donex : ∀ x ∈ L, (w.hs x).doneRow.length ≤ 500 := fun x hx => by
    have h1 := rowx x hx
    have h2 : (w.hs x).doneRow.length ≤ (w.hs x).row.length := List.length_filter_le _ _
    omega
  refine ⟨_, (pss_cons (ps_for PassesOwn.never rfl (pi_tup (pe_dget (u1 hr) (pv 0) pe_str (fun _ _ => rfl))) (pg_name (i := 2) sc_law_right.nd rfl (by first | exact Or.inl rfl | exact Or.inr rfl)) (pss_cons (ps_asg (pe_dget (u1 hr) (pe_dget (u1 hr) (pv 0) pe_str (fun _ _ => rfl)) (pv 2) (fun _ _ => rfl)) (pg_name (i := 3) sc_law_right.nd rfl (by first | exact Or.inl rfl | exact Or.inr rfl)))
    (pss_cons (ps_asg (pe_m0 T.cls T.m_done_row M_done_row (hr.mono (by decide)) (pv 3)) (pg_name (i := 4) sc_law_right.nd rfl (by first | exact Or.inl rfl | exact Or.inr rfl)))
    (pss_one (ps_if (pt_not (pt_val (pe_k C_is_beginning (hr.mono (by decide)) (by rfl) T.g_is_beginning (pa_cons (pv 4) (pa_cons (pe_ix ix_list (pv 1) pe_int (fun _ _ => rfl)) pa_nil))))) (pss_cons (ps_if (pt_not (pt_val (pe_k C_is_beginning (hr.mono (by decide)) (by rfl) T.g_is_beginning (pa_cons (pe_ix ix_list (pv 1) pe_int (fun _ _ => rfl)) (pa_cons (pv 4) pa_nil))))) (pss_one (ps_ret pe_bl)) pss_nil)
    (pss_one (ps_asg (pv 4) (pg_sub (pv 1) pe_int set_list)))) pss_nil)))))
    (pss_cons (ps_for PassesOwn.never rfl (pi_tup (pe_dget (u1 hr) (pv 0) pe_str (fun _ _ => rfl))) (pg_name (i := 2) sc_law_right.nd rfl (by first | exact Or.inl rfl | exact Or.inr rfl)) (pss_cons (ps_asg (pe_dget (u1 hr) (pe_dget (u1 hr) (pv 0) pe_str (fun _ _ => rfl)) (pv 2) (fun _ _ => rfl)) (pg_name (i := 3) sc_law_right.nd rfl (by first | exact Or.inl rfl | exact Or.inr rfl)))
    (pss_one (ps_if (PW.pt (pw_and (pt_val (pe_m0 T.cls T.m_is_settled M_is_settled (hr.mono (by decide)) (pv 3))) (pw_and1 (pt_not (pt_val (pe_k C_is_beginning (hr.mono (by decide)) (by rfl) T.g_is_beginning (pa_cons (pe_ix ix_list (pv 1) pe_int (fun _ _ => rfl)) (pa_cons (pe_m0 T.cls T.m_row M_row (hr.mono (by decide)) (pv 3)) pa_nil)))))))) (pss_cons (ps_setLc (i := 5) (own := [("_law_other", 6)]) (g := gName 6) (by rfl) sc_law_right.nd rfl rfl (sw_true rfl rfl rfl (by decide +kernel)) (pi_tup (pe_dget (u1 hr) (pv 0) pe_str (fun _ _ => rfl))) (blkOk_by (own := [("_law_other", 6)]) (N := ["_law_scene", "_law_longest", "_law_name", "_law_house", "_law_row", "_law_leads", "_law_other"]) (sc := defScope s_law_right) (by decide +kernel)) (fun _ _ _ _ _ => pg_name (i := 6) sc_law_right.nd rfl (Or.inl rfl)) (fun _ _ _ _ _ => pts_nil) (fun _ _ _ _ _ => (pe_m0 T.cls T.m_promised M_promised (hr.mono (by decide)) (pe_dget (u1 hr) (pe_dget (u1 hr) (pv 0) pe_str (fun _ _ => rfl)) (pv 6) (fun _ _ => rfl)))))
    (pss_one (ps_if (pt_cmpR op_eq (pe_m0 T.cls T.m_epoch M_epoch (hr.mono (by decide)) (pv 3)) (pe_callB (cr_max rfl) (by rfl) T.b_max bt_max (pa_cons (pv 5) pa_nil)) (nomark _)) (pss_one (ps_ret pe_bl)) pss_nil))) pss_nil))))
    (pss_one (ps_ret pe_bl)))), ?_⟩
  have lenN : (names L).length = L.length := by unfold names; rw [List.length_map]
  -- the two loops' places
  let In : L2.St → Hp → Prop := fun σ' H' => ∃ x2 x3 x4 x5 x6 lr r, σ' = [some (.ref a.sc), some (.ref a.ll), x2, x3, x4, x5, x6] ∧ Sc K F H' { a with lr := lr } L xs { w with long := r } rd st ∧ WInv L D st { w with long := r } ∧ r.length ≤ 1000
  have start_ : ∀ H1, Ex H H1 → In (start ["_law_scene", "_law_longest", "_law_name", "_law_house", "_law_row", "_law_leads", "_law_other"] [.ref a.sc, .ref a.ll]) H1 := fun H1 e1 => ⟨none, none, none, none, none, a.lr, w.long, rfl, S.exn e1, W, hlong⟩
  refine q_mid In (fun tz fin => ?_) (fun σ' H' z => ?_)
  · refine Evl.s_forT (K := K) (a := a.mt) (xs := names L) (ev_sc S (i := 0) (by rfl) v_members) S.mt (fun _ σ' H' => In σ' H') start_ (fun i σ' H' _ z => by
      obtain ⟨_, _, _, _, _, _, _, _, z, _⟩ := z
      exact z.mt) (fun i v σ' H' hv z => ?_) (fun σ' H' z => fin σ' H' z)
    obtain ⟨x2, x3, x4, x5, x6, lr, r, rfl, s, WW, hr5⟩ := z
    unfold names at hv
    rw [List.getElem?_map] at hv
    obtain ⟨n, hn, rfl⟩ := Option.map_eq_some_iff.mp hv
    have hnL := List.mem_of_getElem? hn
    show tSeq _ _ _ _ _
    simp only [L2.start, List.map_cons, List.map_nil, List.length_cons, List.length_nil, List.replicate_succ, List.replicate_zero, List.cons_append, List.nil_append, List.set_cons_zero, List.set_cons_succ, Nat.reduceAdd, Nat.reduceSub]
    refine Evl.q_asg (ev_house s hnL (i := 0) (by rfl) (evd_var (i := 2) (.str _) (by rfl))) fun H1 e1 => ?_
    have s1 := s.exn e1
    refine q_asgN (evn_Po (m := "done_row") (res := fun h (_ : Unit) => h.doneRow.map dT) (Evl.ev_var (by rfl)) (s1.hs.at_ n hnL) (whx n hnL) () trivial eds_nil (by kernel_rfl)) fun l2 H2 hl2 e2 a2 => ?_
    simp only [L2.start, List.map_cons, List.map_nil, List.length_cons, List.length_nil, List.replicate_succ, List.replicate_zero, List.cons_append, List.nil_append, List.set_cons_zero, List.set_cons_succ, Nat.reduceAdd, Nat.reduceSub]
    have s2 := s1.exn e2
    have lng : ∀ {H'}, Sc K F H' { a with lr := lr } L xs { w with long := r } rd st → ∀ {x2 x3 x4 x5 x6 : Option V}, EvD K (tOp (rIxL K) (tVar 1) (tC (.int 0))) [some (.ref a.sc), some (.ref a.ll), x2, x3, x4, x5, x6] H' (dR r) := fun {H'} s {x2 x3 x4 x5 x6} =>
      evd_op (x := .list [dR r]) (evd_var (i := 1) (.lst (SqL.of s.ll) (.cons s.lr.dp .nil)) (by rfl)) evd_int (rd_ixL (d := dR r) rfl)
    refine s_ifE (Evl.et_not (et_t (K := K) (evd_F (((w.hs n).doneRow, r) : Row × Row) (show (w.hs n).doneRow.length < 100000 by have := donex n hnL; omega) (eds_cons (evd_var (i := 4) a2.dp (by rfl)) (eds_one (lng s2)))))) (fun c H3 e3 => ?_) fun _ H3 e3 => ⟨_, _, _, _, _, lr, r, rfl, s2.exn e3, WW, hr5⟩
    have s3 := s2.exn e3
    have a3 := a2.ex e3
    have c1 : ¬ (w.hs n).doneRow <+: r := prefix_of_not (by cases z : decide (List.take (w.hs n).doneRow.length r = (w.hs n).doneRow) with | false => rfl | true => rw [z] at c; cases c)
    have c2 : r <+: (w.hs n).doneRow := (right_rows WW hnL).resolve_left c1
    refine q_ifF (Evl.et_is (Evl.et_not (et_t (K := K) (evd_F ((r, (w.hs n).doneRow) : Row × Row) (show r.length < 100000 by omega) (eds_cons (lng s3) (eds_one (evd_var (i := 4) a3.dp (by rfl))))))) (by show (!decide (List.take r.length (w.hs n).doneRow = r)) = false; rw [decide_eq_true (beg_iff.mpr c2)]; rfl)) fun H4 e4 => ?_
    have s4 := s3.exn e4
    refine Evl.s_setL (l := a.ll) (j := 0) (v := .ref l2) s4.ll (Evl.ev_var (by rfl)) (Evl.ev_var (by rfl)) Evl.ev_c (by show 0 < 1; decide) fun H5 e5 => ?_
    have s5 := s4.exn e5
    have a5 := (a3.ex e4).ex e5
    refine ⟨_, _, _, _, _, l2, (w.hs n).doneRow, rfl, s5.long a5 (fun m hm => (s1.hs.at_ m hm).new hl2) ?_, right_long (w := { w with long := r }) WW hnL, by have := donex n hnL; omega⟩
    obtain ⟨ks, k1, _⟩ := s1.kn
    obtain ⟨us, u1, _⟩ := s1.po
    obtain ⟨pc, ps, p1, _⟩ := s1.pl
    have ne : ∀ {b : Addr} {o : HO}, H1 b = some o → ¬ l2 = b := fun {b o} h z => by rw [← z, hl2] at h; cases h
    simp only [List.mem_cons, List.not_mem_nil, or_false, not_or]
    exact ⟨ne s1.sc, ne s1.hd, ne u1, ne k1, ne p1, ne s1.ll⟩
  · obtain ⟨x2, x3, x4, x5, x6, lr, r, rfl, s, WW, hr5⟩ := z
    let In2 : L2.St → Hp → Prop := fun σ' H' => ∃ x2 x3 x4 x5 x6, σ' = [some (.ref a.sc), some (.ref a.ll), x2, x3, x4, x5, x6] ∧ Sc K F H' { a with lr := lr } L xs { w with long := r } rd st
    refine q_mid In2 (fun tz fin => ?_) (fun σ' H' z => ?_)
    · refine Evl.s_forT (K := K) (a := a.mt) (xs := names L) (ev_sc s (i := 0) (by rfl) v_members) s.mt (fun _ σ' H' => In2 σ' H') (fun H1 e1 => ⟨_, _, _, _, _, rfl, s.exn e1⟩) (fun i σ' H' _ z => by
        obtain ⟨_, _, _, _, _, _, z⟩ := z
        exact z.mt) (fun i v σ' H' hv z => ?_) (fun σ' H' z => fin σ' H' z)
      obtain ⟨x2, x3, x4, x5, x6, rfl, s⟩ := z
      unfold names at hv
      rw [List.getElem?_map] at hv
      obtain ⟨n, hn, rfl⟩ := Option.map_eq_some_iff.mp hv
      have hnL := List.mem_of_getElem? hn
      show tSeq _ _ _ _ _
      simp only [L2.start, List.map_cons, List.map_nil, List.length_cons, List.length_nil, List.replicate_succ, List.replicate_zero, List.cons_append, List.nil_append, List.set_cons_zero, List.set_cons_succ, Nat.reduceAdd, Nat.reduceSub]
      refine Evl.q_asg (ev_house s hnL (i := 0) (by rfl) (evd_var (i := 2) (.str _) (by rfl))) fun H1 e1 => ?_
      simp only [L2.start, List.map_cons, List.map_nil, List.length_cons, List.length_nil, List.replicate_succ, List.replicate_zero, List.cons_append, List.nil_append, List.set_cons_zero, List.set_cons_succ, Nat.reduceAdd, Nat.reduceSub]
      have s1 := s.exn e1
      have lng : ∀ {x2 x3 x4 x5 x6 : Option V}, EvD K (tOp (rIxL K) (tVar 1) (tC (.int 0))) [some (.ref a.sc), some (.ref a.ll), x2, x3, x4, x5, x6] H1 (dR r) := fun {x2 x3 x4 x5 x6} =>
        evd_op (x := .list [dR r]) (evd_var (i := 1) (.lst (SqL.of s1.ll) (.cons s1.lr.dp .nil)) (by rfl)) evd_int (rd_ixL (d := dR r) rfl)
      refine s_ifE (Evl.et_and (et_t (K := K) (evd_Po (m := "is_settled") (res := fun h (_ : Unit) => .bool h.settled) (Evl.ev_var (by rfl)) (s1.hs.at_ n hnL) (whx n hnL) () trivial eds_nil (by kernel_rfl))) fun _ => Evl.et_not (et_t (K := K) (evd_F ((r, (w.hs n).row) : Row × Row) (show r.length < 100000 by omega) (eds_cons lng (eds_one (EvN.d (evn_Po (m := "row") (res := fun h (_ : Unit) => h.row.map dT) (Evl.ev_var (by rfl)) (s1.hs.at_ n hnL) (whx n hnL) () trivial eds_nil (by kernel_rfl)))))))) (fun c H2 e2 => ?_) fun _ H2 e2 => ⟨_, _, _, _, _, rfl, s1.exn e2⟩
      obtain ⟨c1, c2⟩ := Bool.and_eq_true_iff.mp c
      have c3 : ¬ r <+: (w.hs n).row := prefix_of_not (by cases z : decide (List.take r.length (w.hs n).row = r) with | false => rfl | true => rw [z] at c2; cases c2)
      have s2 := s1.exn e2
      have dms : EvD K (tDGet (tVar 0) (tC (.str "members"))) [some (.ref a.sc), some (.ref a.ll), some (.str (nS n)), some (.ref (xs n).p), x4, x5, x6] H2 (.tuple (L.map dN)) := evd_ev (ev_sc s2 (i := 0) (by rfl) v_members) (.tup s2.mt (dpA_names L))
      refine q_asgN (evn_lcT (xs := L) (g := dN) (fun _ => true) (fun m => dI (w.hs m).promised) dms (by omega) (fun m _ => imm_dI _) (fun m _ v H3 _ _ => et_yes) fun m hm v H3 e3 hv _ => ?_) fun l3 H3 hl3 e3 a3 => ?_
      · exact evd_Po (m := "promised") (res := fun h (_ : Unit) => dI h.promised) (ev_house (s2.exn e3) hm (i := 0) (by rfl) (evd_var (i := 6) hv (by rfl))) ((s2.exn e3).hs.at_ m hm) (whx m hm) () trivial eds_nil (by kernel_rfl)
      simp only [L2.start, List.map_cons, List.map_nil, List.length_cons, List.length_nil, List.replicate_succ, List.replicate_zero, List.cons_append, List.nil_append, List.set_cons_zero, List.set_cons_succ, Nat.reduceAdd, Nat.reduceSub]
      have s3 := s2.exn e3
      obtain ⟨us, u1, u2⟩ := a3
      have u3 : DpAll K H3 us ((L.map fun m => ((w.hs m).promised : Int)).map PyData.int) := by
        rw [List.map_map]
        have e : L.filter (fun _ => true) = L := List.filter_eq_self.mpr fun _ _ => rfl
        rw [e] at u2
        exact u2
      have hus := dpA_ints u3
      subst hus
      have no : Evl.EvT (tTest (tOp rEq (tMeth (CH K) "epoch" (spEpoch K) [] E0 (tVar 3) tNil) (tCB (rMax K) (tCons (tVar 5) tNil)))) [some (.ref a.sc), some (.ref a.ll), some (.str (nS n)), some (.ref (xs n).p), x4, some (.ref l3), x6] H3 false := fun H4 e4 Qk k4 => by
        refine (evd_Po (K := K) (to := tVar 3) (m := "epoch") (res := fun h (_ : Unit) => dI h.epoch) (Evl.ev_var (by rfl)) (s3.hs.at_ n hnL) (whx n hnL) () trivial eds_nil (by kernel_rfl)) H4 e4 _ fun v H5 e5 d5 => ?_
        refine ⟨.ref l3, rfl, l3, L.map fun m => ((w.hs m).promised : Int), rfl, SqL.of ((e4.trans e5) _ _ u1), by rw [List.length_map]; exact LO.ok.one, fun m m1 m2 => ?_⟩
        rw [dp_int d5]
        refine ⟨rfl, _, rfl, ?_⟩
        have hne : ¬ (V.int ((w.hs n).epoch : Int) = V.int m) := fun z => by
          have z := V.int.inj z
          refine c3 (right_head (w := { w with long := r }) WW hnL c1 fun y hy => ?_)
          have := m2 ((w.hs y).promised : Int) (List.mem_map.mpr ⟨y, hy, rfl⟩)
          show (w.hs y).promised ≤ (w.hs n).epoch
          omega
        rw [decide_eq_false hne]
        exact k4 H5 e5
      refine s_ifF no fun H4 e4 => ⟨_, _, _, _, _, rfl, s3.exn e4⟩
    · obtain ⟨x2, x3, x4, x5, x6, rfl, s⟩ := z
      exact c_ret (c_c (q lr r H' s WW hr5))
end
end Wn

set_option Elab.async false
set_option linter.all false
set_option maxRecDepth 100000
set_option maxHeartbeats 4000000
/-! the law. -/
namespace Wn
open PySem PySem.Spec PyProof.Rows L2
open Zab hiding World Place Row
section
variable {K : PySem.W.Frag} {σ : L2.St} {H : Hp} {ta tb : TE}
theorem dpA_rep {ds : List PyData} {vs : List V} (h : DpAll K H vs ds) : ∀ n : Nat, DpAll K H (List.replicate n vs).flatten (List.replicate n ds).flatten
  | 0 => .nil
  | n + 1 => by
    rw [List.replicate_succ, List.replicate_succ, List.flatten_cons, List.flatten_cons]
    exact dpA_app h (dpA_rep h n)
theorem len_rep (vs : List V) : ∀ n : Nat, (List.replicate n vs).flatten.length = vs.length * n
  | 0 => by simp
  | n + 1 => by rw [List.replicate_succ, List.flatten_cons, List.length_append, len_rep vs n, Nat.mul_succ]; omega
/-- a new list, so many times -/
theorem evn_rep {ds : List PyData} {k : Int} (ha : EvN K ta σ H ds) (h0 : 0 ≤ k) (h1 : k ≤ 1000) (hz : ds.length ≤ 1000) : EvN K (tOp rRep ta (tC (.int k))) σ H (List.replicate k.toNat ds).flatten := fun H1 e Q q =>
  ha H1 e _ fun p H2 hp e2 l => by
    obtain ⟨xs, a1, a2⟩ := l
    have s1 := dpA_len a2
    have hm : xs.length * k.toNat ≤ 1000 * 1000 := Nat.mul_le_mul (by omega) (by omega)
    refine ⟨p, k, xs, rfl, rfl, a1, by omega, by omega, by rw [sizeLine_eq]; omega, fun x hx => ?_⟩
    have e4 := Evl.Ex.new (o := .lst (List.replicate k.toNat xs).flatten) hx
    exact q x _ (Evl.fresh_back e2 hx) (e2.trans e4) ⟨_, upd_same, dpA_rep (dpA_ex e4 a2) _⟩
theorem ev_min2 {i j : Int} (ha : Evl.Ev ta σ H (.int i)) (hb : Evl.Ev tb σ H (.int j)) : Evl.Ev (tCB (fun xs H Q => ∃ i j, xs = [.int i, .int j] ∧ Q (.int (if j < i then j else i)) H) (tCons ta (tCons tb tNil))) σ H (.int (if j < i then j else i)) := fun H1 e Q q =>
  ha H1 e _ fun H2 e2 => hb H2 (e.trans e2) _ fun H3 e3 => ⟨i, j, rfl, q H3 (e2.trans e3)⟩
theorem s_ifNot {te : TE} {tu tw : TS} {D : Ends} (h : te σ H fun v H1 => ∃ b, v = V.bl b ∧ (if (!b) = true then tu D σ H1 else tw D σ H1)) : tIfS (tNot (tTest te)) tu tw D σ H := h
end
theorem long_len {M : List Nat} {D st : Nat} {w : Zab.World} (W : WInv M D st w) : w.long.length ≤ D := by
  obtain ⟨G, g, hG, _, _, hC⟩ := W.ex
  have := W.st
  rcases hC with z | ⟨e, p, _, h2⟩
  · rw [z]; exact Nat.zero_le _
  · rw [h2]
    have h3 : (upTo (G.hist e) p).length ≤ (G.hist e).length := List.length_filter_le _ _
    have h4 := (g.siz e).1
    omega
def ways : List Str := List.replicate 16 ("next" : Str) ++ List.replicate 3 ("give" : Str) ++ (["seek", "beat", "beat", "put", "put", "put", "put", "anew"] : List Str)
theorem ways_d : (List.replicate (Int.toNat 16) [PyData.str "next"]).flatten ++ (List.replicate (Int.toNat 3) [PyData.str "give"]).flatten ++ [PyData.str "seek", PyData.str "beat", PyData.str "beat", PyData.str "put", PyData.str "put", PyData.str "put", PyData.str "put", PyData.str "anew"] = ways.map PyData.str := by kernel_rfl
theorem ways_l : ways.length = 27 := by kernel_rfl
def spLaw (K : PySem.W.Frag) : Sp := fun vs H Q _ => ∃ (sa : Addr) (ns : List Int), vs = [.ref sa] ∧ SqL K H sa (ns.map V.int) ∧ ns.length ≤ 63 ∧ ∀ H', Q (.bl true) H'
theorem sc_law : FnScope ["_law_script", "_law_ways", "_law_pool_here", "_law_scene", "_law_longest", "_law_k", "_law_turn"] ["_law_script"] (defScope s_law) := ⟨rfl, rfl, rfl, by decide +kernel, rfl, by decide +kernel, by decide +kernel⟩
section
variable {P : Program} {w : World} {K : PySem.W.Frag} {mg : Str → Option Value} {base : Heap}
theorem law_body (T : TX w K mg) (cdv : Value) (A : Around) (outer : List Env) (s : Shared) (H : Hp) (vs : List V) (Q : VK) (E : XK) (hr : Room 10 (A.deeper (envOfC d_law.qual d_law.scope s.heap.objs.size (He.fAd K d_law.at_) cdv))) (z : spLaw K vs H Q E) :
    ∃ t, PSs (BX P w K mg base ["_law_script", "_law_ways", "_law_pool_here", "_law_scene", "_law_longest", "_law_k", "_law_turn"] d_law.qual d_law.scope (He.fAd K d_law.at_) cdv A outer s H E) d_law.body t ∧ t { nx := fun _ H' => Q .non H', rt := Q } (start ["_law_script", "_law_ways", "_law_pool_here", "_law_scene", "_law_longest", "_law_k", "_law_turn"] vs) H := by
  have C_law_pool := ok_law_pool (P := P) (base := base) T
  have C_law_start := ok_law_start (P := P) (base := base) T
  have C_law_woven := ok_law_woven (P := P) (base := base) T
  have C_law_right := ok_law_right (P := P) (base := base) T
  obtain ⟨sa, ns, rfl, hsa, hn, q⟩ := z
  refine ⟨_, (pss_cons (ps_asg (pe_op op_cat (pe_op op_cat (pe_op op_rep (pe_lst (pa_cons pe_str pa_nil)) pe_int) (pe_op op_rep (pe_lst (pa_cons pe_str pa_nil)) pe_int)) (pe_lst (pa_cons pe_str (pa_cons pe_str (pa_cons pe_str (pa_cons pe_str (pa_cons pe_str (pa_cons pe_str (pa_cons pe_str (pa_cons pe_str pa_nil)))))))))) (pg_name (i := 1) sc_law.nd rfl (by first | exact Or.inl rfl | exact Or.inr rfl)))
    (pss_cons (ps_asg (pe_k C_law_pool (hr.mono (by decide)) (by rfl) T.g_law_pool (pa_cons (pv 0) (pa_cons pe_int pa_nil))) (pg_name (i := 2) sc_law.nd rfl (by first | exact Or.inl rfl | exact Or.inr rfl)))
    (pss_cons (ps_asg (pe_k C_law_start (hr.mono (by decide)) (by rfl) T.g_law_start (pa_cons (pv 2) (pa_cons pe_str pa_nil))) (pg_name (i := 3) sc_law.nd rfl (by first | exact Or.inl rfl | exact Or.inr rfl)))
    (pss_cons (ps_asg (pe_lst (pa_cons (pe_lst pa_nil) pa_nil)) (pg_name (i := 4) sc_law.nd rfl (by first | exact Or.inl rfl | exact Or.inr rfl)))
    (pss_cons (ps_for PassesOwn.never rfl (pi_range2 (by rfl) T.b_range (pa_cons pe_int (pa_cons (pe_callB (call_max2 rfl) (by rfl) T.b_max bt_max (pa_cons pe_int (pa_cons (pe_callB (call_min2 rfl) (by rfl) T.b_min bt_min (pa_cons (pe_callB call_len (by rfl) T.b_len PySem.boot_len (pa_cons (pv 0) pa_nil)) (pa_cons pe_int pa_nil))) pa_nil))) pa_nil))) (pg_name (i := 5) sc_law.nd rfl (by first | exact Or.inl rfl | exact Or.inr rfl)) (pss_cons (ps_asg (pe_k C_law_pool (hr.mono (by decide)) (by rfl) T.g_law_pool (pa_cons (pv 0) (pa_cons (pv 5) pa_nil))) (pg_name (i := 2) sc_law.nd rfl (by first | exact Or.inl rfl | exact Or.inr rfl)))
    (pss_one (ps_for PassesOwn.never rfl (pi_range1 (by rfl) T.b_range (pa_cons pe_int pa_nil)) (pg_name (i := 6) sc_law.nd rfl (by first | exact Or.inl rfl | exact Or.inr rfl)) (pss_cons (ps_expr (pe_k C_law_woven (hr.mono (by decide)) (by rfl) T.g_law_woven (pa_cons (pv 2) (pa_cons (pv 3) (pa_cons (pv 1) (pa_cons pe_int pa_nil))))))
    (pss_one (ps_if (pt_not (pt_val (pe_k C_law_right (hr.mono (by decide)) (by rfl) T.g_law_right (pa_cons (pv 3) (pa_cons (pv 4) pa_nil))))) (pss_one (ps_ret pe_bl)) pss_nil)))))))
    (pss_one (ps_ret pe_bl))))))), ?_⟩
  have dns : DpAll K H (ns.map V.int) (ns.map PyData.int) := by
    clear hsa hn
    induction ns with
    | nil => exact .nil
    | cons i r ih => exact .cons (.int i) ih
  have d0 : Dp K H (.ref sa) (.list (ns.map .int)) := .lst hsa dns
  -- the ways
  refine q_asgN (K := K) (evn_cat (evn_cat (evn_rep (evn_lst (eds_one (evd_str (i := "next")))) (by decide) (by decide) (by decide)) (evn_rep (evn_lst (eds_one (evd_str (i := "give")))) (by decide) (by decide) (by decide)) (by decide)) (evn_lst (eds_cons evd_str (eds_cons evd_str (eds_cons evd_str (eds_cons evd_str (eds_cons evd_str (eds_cons evd_str (eds_cons evd_str (eds_one evd_str))))))))) (by decide)) fun wy H1 hwy e1 a1 => ?_
  simp only [L2.start, List.map_cons, List.map_nil, List.length_cons, List.length_nil, List.replicate_succ, List.replicate_zero, List.cons_append, List.nil_append, List.set_cons_zero, List.set_cons_succ, Nat.reduceAdd, Nat.reduceSub]
  have dwy : Dp K H1 (.ref wy) (.list (ways.map .str)) := ways_d ▸ a1.dp
  have d1 := dp_ex e1 d0
  -- the first pool
  refine c_asg (c_call (c_cons (c_var (i := 0) (c_cons (c_c (c_nil ⟨.ref sa, 0, ns, rfl, d1, by decide, fun p H2 hp e2 pl => ?_⟩))) (by rfl))))
  show tSeq _ _ _ _ _
  simp only [L2.start, List.map_cons, List.map_nil, List.length_cons, List.length_nil, List.replicate_succ, List.replicate_zero, List.cons_append, List.nil_append, List.set_cons_zero, List.set_cons_succ, Nat.reduceAdd, Nat.reduceSub]
  refine c_asg (c_call (c_cons (c_var (i := 2) (c_cons (c_c (c_nil ⟨p, rfl, pl, fun a L xs H3 hL ep Z => ?_⟩))) (by rfl))))
  show tSeq _ _ _ _ _
  simp only [L2.start, List.map_cons, List.map_nil, List.length_cons, List.length_nil, List.replicate_succ, List.replicate_zero, List.cons_append, List.nil_append, List.set_cons_zero, List.set_cons_succ, Nat.reduceAdd, Nat.reduceSub]
  subst ep
  have LO := membs_ok hL
  have ex3 : Ex H1 H3 := fun b o h => Z.keep b o (fun y => by rw [y, hp] at h; cases h) (e2 b o h)
  refine c_asg (c_lst (c_cons (c_lst (c_nil ⟨Nat.zero_le _, fun lr hlr => c_nil ⟨Evl.sz_of (show 1 ≤ 100000 by decide), fun ll hll => ?_⟩⟩))))
  show tSeq _ _ _ _ _
  simp only [L2.start, List.map_cons, List.map_nil, List.length_cons, List.length_nil, List.replicate_succ, List.replicate_zero, List.cons_append, List.nil_append, List.set_cons_zero, List.set_cons_succ, Nat.reduceAdd, Nat.reduceSub]
  have e4 := Evl.Ex.new (o := HO.lst []) hlr
  have e5 := Evl.Ex.new (o := HO.lst [V.ref lr]) hll
  have ll3 := Evl.fresh_back e4 hll
  have lr_s : (upd H3 lr (HO.lst [])) lr = some (HO.lst []) := upd_same
  have ne : ∀ {G : Hp} {b c : Addr} {o : HO}, G b = some o → G c = none → b ≠ c := fun {G b c o} h h' y => by rw [y, h'] at h; cases h
  have nlr : lr ≠ ll := ne lr_s hll
  have S5 : Sc K H1 (upd (upd H3 lr (HO.lst [])) ll (HO.lst [V.ref lr])) { a with ll := ll, lr := lr } L xs ⟨fun x => first x L, [], []⟩ 0 0 := by
    have e45 := e4.trans e5
    obtain ⟨⟨n1, n2, n3, n4⟩, ⟨n5, n6, n7⟩, ⟨n8, n9⟩, n10⟩ := nd5.mp Z.nd
    obtain ⟨pc, ps, pl3, _⟩ := Z.pl
    refine ⟨ex3.trans e45, e45 _ _ Z.sc, Evl.ex_t e45 Z.mt, e45 _ _ Z.hd, ⟨[], e45 _ _ Z.po, .nil⟩, ⟨[], e45 _ _ Z.kn, Nat.le_refl _⟩, Z.pl.ex e45, upd_same, ⟨[], e5 _ _ lr_s, .nil⟩, Z.hs.ex e45, ⟨Evl.fresh_back e2 Z.new.1, Evl.fresh_back e2 Z.new.2.1, Evl.fresh_back e2 Z.new.2.2, hp, Evl.fresh_back ex3 ll3⟩, fun m hm b ob => Evl.fresh_back e2 (Z.own m hm b ob), ?_, ?_⟩
    · intro b hb
      simp only [List.mem_cons, List.not_mem_nil, or_false] at hb
      rcases hb with rfl | rfl | rfl | rfl | rfl | rfl | rfl
      · exact Z.no _ (by simp)
      · exact Z.no _ (by simp)
      · exact Z.no _ (by simp)
      · exact Z.no _ (by simp)
      · exact Z.no _ (by simp)
      · exact fun m hm => (Z.hs.at_ m hm).new ll3
      · exact fun m hm => (Z.hs.at_ m hm).new hlr
    · exact nd7.mpr ⟨⟨n1, n2, n3, n4, ne Z.sc ll3, ne Z.sc hlr⟩, ⟨n5, n6, n7, ne Z.hd ll3, ne Z.hd hlr⟩, ⟨n8, n9, ne Z.po ll3, ne Z.po hlr⟩, ⟨n10, ne Z.kn ll3, ne Z.kn hlr⟩, ⟨ne pl3 ll3, ne pl3 hlr⟩, nlr.symm⟩
  have W0 : WInv L 0 0 ⟨fun x => first x L, [], []⟩ := start_w LO.le
  generalize upd (upd H3 lr (HO.lst [])) ll (HO.lst [V.ref lr]) = H5 at S5 ⊢
  -- the rounds
  let Pv : Nat → L2.St → Hp → Prop := fun i σ' H' => ∃ a xs w rd st x5 x6, σ' = [some (.ref sa), some (.ref wy), some (.ref a.p), some (.ref a.sc), some (.ref a.ll), x5, x6] ∧ Sc K H1 H' a L xs w rd st ∧ WInv L (14 * i) st w ∧ rd ≤ w.post.length
  have dsa : ∀ {H'}, Ex H1 H' → Dp K H' (.ref sa) (.list (ns.map .int)) := fun {H'} e => dp_ex e d1
  let N : Int := if (if (31 : Int) < (ns.length : Int) then (31 : Int) else (ns.length : Int)) > 6 then (if (31 : Int) < (ns.length : Int) then (31 : Int) else (ns.length : Int)) else 6
  have hN : 6 ≤ N ∧ N ≤ 31 := by
    show 6 ≤ (if (if (31 : Int) < (ns.length : Int) then (31 : Int) else (ns.length : Int)) > 6 then (if (31 : Int) < (ns.length : Int) then (31 : Int) else (ns.length : Int)) else 6) ∧ (if (if (31 : Int) < (ns.length : Int) then (31 : Int) else (ns.length : Int)) > 6 then (if (31 : Int) < (ns.length : Int) then (31 : Int) else (ns.length : Int)) else 6) ≤ 31
    split <;> split <;> omega
  refine q_mid (fun _ _ => True) (fun tz fin => ?_) (fun σ' H' _ => c_ret (c_c (q H')))
  refine Evl.s_forR2 (lo := 1) (n := N) (Evl.ea_cons Evl.ev_c (Evl.ea_cons (Evl.ev_max2 Evl.ev_c (ev_min2 (ev_int ((evd_lenL (K := K) (evd_var (i := 0) (dsa S5.ex) (by rfl))).to (by rw [List.length_map]))) Evl.ev_c)) Evl.ea_nil)) (by omega) Pv (fun H6 e6 => ⟨_, xs, _, 0, 0, none, none, rfl, S5.exn e6, W0, Nat.le_refl _⟩) (fun i σ' H' hi z => ?_) (fun σ' H' _ => fin σ' H' trivial)
  obtain ⟨a, xs, w, rd, st, x5, x6, rfl, S, W, hrd⟩ := z
  have ei : (1 : Int) + (i : Int) = ((1 + i : Nat) : Int) := by omega
  rw [ei]
  show tSeq _ _ _ _ _
  simp only [L2.start, List.map_cons, List.map_nil, List.length_cons, List.length_nil, List.replicate_succ, List.replicate_zero, List.cons_append, List.nil_append, List.set_cons_zero, List.set_cons_succ, Nat.reduceAdd, Nat.reduceSub]
  refine c_asg (c_call (c_cons (c_var (i := 0) (c_cons (c_var (i := 5) (c_nil ⟨.ref sa, 1 + i, ns, rfl, dsa S.ex, by omega, fun p H7 hp e7 pl => ?_⟩) (by rfl))) (by rfl))))
  show tFor _ _ _ _ _ _
  simp only [L2.start, List.map_cons, List.map_nil, List.length_cons, List.length_nil, List.replicate_succ, List.replicate_zero, List.cons_append, List.nil_append, List.set_cons_zero, List.set_cons_succ, Nat.reduceAdd, Nat.reduceSub]
  have S7 := S.pool e7 hp pl
  refine Evl.s_forR1 (n := 14) (Evl.ea_cons Evl.ev_c Evl.ea_nil) (by decide) (fun j σ' H' => ∃ a xs w rd st x6, σ' = [some (.ref sa), some (.ref wy), some (.ref a.p), some (.ref a.sc), some (.ref a.ll), some (.int ((1 + i : Nat) : Int)), x6] ∧ Sc K H1 H' a L xs w rd st ∧ WInv L (14 * i + j) st w ∧ rd ≤ w.post.length) (fun H8 e8 => ⟨_, xs, w, rd, st, _, rfl, S7.exn e8, W, hrd⟩) (fun j σ' H' hj z => ?_) (fun σ' H' z => ?_)
  · obtain ⟨a, xs, w, rd, st, x6, rfl, S, W, hrd⟩ := z
    show tSeq _ _ _ _ _
    simp only [L2.start, List.map_cons, List.map_nil, List.length_cons, List.length_nil, List.replicate_succ, List.replicate_zero, List.cons_append, List.nil_append, List.set_cons_zero, List.set_cons_succ, Nat.reduceAdd, Nat.reduceSub]
    refine c_drop (c_call (c_cons (c_var (i := 2) (c_cons (c_var (i := 3) (c_cons (c_var (i := 1) (c_cons (c_c (c_nil ⟨H1, a, L, xs, w, 14 * i + j, rd, st, wy, ways, rfl, S, W, LO, by omega, hrd, dwy, by rw [ways_l]; decide, by rw [ways_l]; decide, fun xs' w' rd' st' H8 S8 W8 hrd8 => ?_⟩))) (by rfl))) (by rfl))) (by rfl))))
    have W8 : WInv L (14 * i + (j + 1)) st' w' := W8
    refine s_ifNot (c_call (c_cons (c_var (i := 3) (c_cons (c_var (i := 4) (c_nil ⟨H1, a, L, xs', w', 14 * i + (j + 1), rd', st', rfl, S8, W8, LO, by omega, by have := long_len W8; omega, fun lr r H9 S9 W9 _ => ⟨true, rfl, ?_⟩⟩) (by rfl))) (by rfl))))
    exact ⟨{ a with lr := lr }, xs', _, rd', st', _, rfl, S9, W9, hrd8⟩
  · obtain ⟨a, xs, w, rd, st, x6, rfl, S, W, hrd⟩ := z
    exact ⟨a, xs, w, rd, st, _, x6, rfl, S, W, hrd⟩
end
end Wn

set_option Elab.async false
set_option linter.all false
set_option maxRecDepth 100000
set_option maxHeartbeats 0
/-! the join. -/
namespace Wn
open PySem PySem.Spec PyProof.Rows L2
open Zab hiding World Place Row
theorem facts {P : Program} {w : World} {K : PySem.W.Frag} {h : Heap} {mg : Str → Option Value} {f : Addr} (X : K.In h) (G : h.Ns mainGlobals mg) (hfa : mg ("law" : Str) = some (.ref f)) (c : He.SaysT fa fn ts w K) (m : ex K = true) :
    ∃ fd : FuncData, (∀ (s : Shared) (v : Value), BindsTo s fd ⟨[v], []⟩ [("_law_script", v)]) ∧ ∀ base : Heap, K.In base → base.Ns mainGlobals mg → FnOk P w K mg base CX0 11 f fd ["_law_script"] (spLaw K) := by
  have T : TX w K mg := ⟨c, m, h, X, G⟩
  obtain ⟨fd, F⟩ := T.says.d.def_ 30 (d := d_law) rfl
  have e := hfa.symm.trans T.g_law
  cases e
  have b := FunD.bindsA (ps := ["_law_script"]) F fun _ _ _ _ _ _ us hl => match us, hl with | [_], _ => rfl
  refine ⟨fd, fun s v => b s [v] rfl, fun base _ _ => ?_⟩
  have e1 : d_law.dvs K = [] := rfl
  have e2 : d_law.kws K = [] := rfl
  rw [e1, e2] at F
  exact F.ok sc_law (fun vs H Q E z => by
    obtain ⟨a, ns, rfl, _⟩ := z
    rfl) fun cdv A outer s H vs Q E hr z => by
    obtain ⟨t, h1, h2⟩ := law_body (P := P) (base := base) T cdv A outer s H vs Q E hr z
    exact ⟨t, h1.nox, h2⟩
end Wn
open PySem PySem.W PySem.Calls PyProof.Rows
theorem PySem.Challenge.cw_watchednodes_k36_whole_one_row_is_done_holds : PySem.Challenge.rw_watchednodes_k36_whole_one_row_is_done.Holds := by
  w_on; o_law
  refine HandSHeadRun.head_any (r := OpenLaw.row PySem.Challenge.rw_watchednodes_k36_whole_one_row_is_done) (q := view (OpenLaw.row PySem.Challenge.rw_watchednodes_k36_whole_one_row_is_done).prog [90]) (H := Wn.hk) (ob := Wn.ob) (M := 8000) (loose := Wn.loose) (d := HandSHeadRun.topDef (OpenLaw.row PySem.Challenge.rw_watchednodes_k36_whole_one_row_is_done).prog 90) (kwd := []) Wn.ob_eq
    (by kernel_rfl) (fun s => by kernel_rfl) Wn.run (by kernel_rfl) (by kernel_rfl) (by kernel_rfl) (by rfl) (by first | assumption | decide +kernel) (by decide +kernel) ⟨rfl, rfl, rfl, rfl, rfl, by decide +kernel⟩ ?hw ?hc
  case hw => w_witness2
  case hc =>
    refine L2.walk_ofE (l := PySem.Challenge.rw_watchednodes_k36_whole_one_row_is_done) (n := 63) (k := 11) (x := "_law_script") (CX := L2.CX0) rfl (by decide) (by kernel_rfl) ⟨rfl, by decide, by decide⟩ ?F (fun _ _ _ _ z => z)
    intro w mg fa h Y G hmg0
    obtain ⟨K, KX, c, m⟩ := Y
    have hmg : mg ("law" : PySem.Str) = some (.ref fa) := by
      have e : (HandSHeadRun.topDef (OpenLaw.row PySem.Challenge.rw_watchednodes_k36_whole_one_row_is_done).prog 90).name = ("law" : PySem.Str) := by kernel_rfl
      rw [← e]
      exact hmg0
    obtain ⟨fd, hb, hF⟩ := Wn.facts (P := (PySem.Challenge.rw_watchednodes_k36_whole_one_row_is_done).prog) (w := w) KX G hmg c m
    exact ⟨K, fd, Wn.spLaw K, KX, hb, fun H a ns hl _ hS => ⟨a, ns, rfl, hS, hl, fun _ => rfl⟩, hF⟩
