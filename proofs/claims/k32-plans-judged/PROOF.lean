import PyProof.Rows.All
import Wide.All
import OpenK.AllK
import Wide.FinOn
import HandS.ForMost
import HandS.HeadHook1
import HandS.Deep
import HandS.Style
import HandS.IsInst
import HandS.SortInts
import HandS.Walk
import HandS.Defaults
import HandS.HeadEnd
import KE.SortData
import HandS.Text
import HandS.Dict
import HandS.Conv
import HandS.More
import HandS.DictComp
import PyProof.DictUpdate
import HandS.ClsMeth
import HandS.HeadHook2
import KE.KOpsOwn
import HandS.Ends
import HandS.HeadHook4
import PyProof.StrBlock2
import KE.GoesEnum
import HandS.Codes
import HandS.TryOnly
import HandS.SetKeys
import HandS.Iter
import KE.KStateDown
import HandS.Words
import HandS.WordsExc
import HandS.Head0
import HandS.Head1
import HandS.Head2
import HandS.HeadHook3
import PySem.Challenge.RW_walksback_k32_plans_judged
set_option Elab.async false
set_option linter.all false
set_option maxRecDepth 100000
set_option maxHeartbeats 2000000
/-! Trees of data over the hand layer: what is known (stable, in a part S of the heap) and what is owned (lists and dicts that may still change, each reached by one way). -/
namespace Qy
open PySem PySem.Spec PyProof.Rows L2

inductive D where
  | non | bl (b : Bool) | int (i : Int) | str (x : Str)
  | lst (xs : List D) | tup (xs : List D)
  | dK (kvs : List (Key × D)) | dT (kvs : List (List Key × D))
  | ins (C : Str) (fs : List (Str × D))
  | raw (v : V) | scr (ns : List Int) | kt (xs : List D)

inductive OD where
  | st (d : D) | ol (xs : List OD) | oK (kvs : List (Key × OD)) | oT (kvs : List (List Key × OD))
  | oi (C : Str) (fs : List (Str × OD)) | cell (p : Addr) (o : HO)

mutual
def OD.val : OD → D
  | .st d => d
  | .ol xs => .lst (valL xs)
  | .oK kvs => .dK (valK kvs)
  | .oT kvs => .dT (valT kvs)
  | .oi C fs => .ins C (valF fs)
  | .cell p _ => .raw (.ref p)
def valL : List OD → List D
  | [] => []
  | x :: r => x.val :: valL r
def valK : List (Key × OD) → List (Key × D)
  | [] => []
  | (k, x) :: r => (k, x.val) :: valK r
def valT : List (List Key × OD) → List (List Key × D)
  | [] => []
  | (k, x) :: r => (k, x.val) :: valT r
def valF : List (Str × OD) → List (Str × D)
  | [] => []
  | (k, x) :: r => (k, x.val) :: valF r
end
theorem valL_map : ∀ xs : List OD, valL xs = xs.map OD.val
  | [] => rfl
  | x :: r => by simp [valL, valL_map r]
theorem valK_map : ∀ xs : List (Key × OD), valK xs = xs.map fun p => (p.1, p.2.val)
  | [] => rfl
  | (k, x) :: r => by simp [valK, valK_map r]
theorem valT_map : ∀ xs : List (List Key × OD), valT xs = xs.map fun p => (p.1, p.2.val)
  | [] => rfl
  | (k, x) :: r => by simp [valT, valT_map r]

theorem valF_map : ∀ xs : List (Str × OD), valF xs = xs.map fun p => (p.1, p.2.val)
  | [] => rfl
  | (k, x) :: r => by simp [valF, valF_map r]

abbrev Ex (H H' : Hp) : Prop := ∀ a o, H a = some o → H' a = some o
theorem ex_refl (H : Hp) : Ex H H := fun _ _ h => h
theorem ex_trans {H H1 H2 : Hp} (a : Ex H H1) (b : Ex H1 H2) : Ex H H2 := fun x o h => b x o (a x o h)
theorem ex_rd {H H' : Hp} {a : Addr} {u : HO} (e : Ex H H') (h : Rd H a u) : Rd H' a u := by
  rcases h with h | ⟨o, h⟩
  · exact Or.inl (e a _ h)
  · exact Or.inr ⟨o, e a _ h⟩
theorem ex_l {K : PySem.W.Frag} {H H' : Hp} {a : Addr} {xs : List V} (e : Ex H H') (h : SqL K H a xs) : SqL K H' a xs := by
  rcases h with h | h
  · exact Or.inl (ex_rd e h)
  · exact Or.inr h
theorem ex_t {K : PySem.W.Frag} {H H' : Hp} {a : Addr} {xs : List V} (e : Ex H H') (h : SqT K H a xs) : SqT K H' a xs := by
  rcases h with h | h
  · exact Or.inl (ex_rd e h)
  · exact Or.inr h
theorem ex_none {H H' : Hp} {p : Addr} (e : Ex H H') (h : H' p = none) : H p = none := by
  cases h1 : H p with
  | none => rfl
  | some o => rw [e p o h1] at h; cases h
theorem ex_new {H : Hp} {p : Addr} {o : HO} (h : H p = none) : Ex H (upd H p o) := fun a u e => by
  rw [upd_ne (ne_of_none e h)]; exact e
theorem ex_upd {S H : Hp} {p : Addr} {o : HO} (e : Ex S H) (h : S p = none) : Ex S (upd H p o) := fun a u ha => by
  rw [upd_ne (ne_of_none ha h)]; exact e a u ha
theorem ex_both {S H : Hp} {p : Addr} {o : HO} (e : Ex S H) : Ex (upd S p o) (upd H p o) := fun a u ha => by
  by_cases h : a = p
  · subst h; rw [upd_same] at ha ⊢; exact ha
  · rw [upd_ne h] at ha ⊢; exact e a u ha

/-! ### stable data -/
inductive RpI (K : PySem.W.Frag) (S : Hp) : List (V × D) → Prop
  | nil : RpI K S []
  | non {r} : RpI K S r → RpI K S ((.non, .non) :: r)
  | bl {b r} : RpI K S r → RpI K S ((.bl b, .bl b) :: r)
  | int {i r} : RpI K S r → RpI K S ((.int i, .int i) :: r)
  | str {x r} : RpI K S r → RpI K S ((.str x, .str x) :: r)
  | raw {v r} : RpI K S r → RpI K S ((v, .raw v) :: r)
  | scr {a ns r} : SqL K S a (ns.map V.int) → RpI K S r → RpI K S ((.ref a, .scr ns) :: r)
  | lst {a vs ds r} : S a = some (.lst vs) → vs.length = ds.length → RpI K S (vs.zip ds) → RpI K S r → RpI K S ((.ref a, .lst ds) :: r)
  | tup {a vs ds r} : S a = some (.tup vs) → vs.length = ds.length → RpI K S (vs.zip ds) → RpI K S r → RpI K S ((.ref a, .tup ds) :: r)
  | kt {a vs ds r} : SqT K S a vs → vs.length = ds.length → RpI K S (vs.zip ds) → RpI K S r → RpI K S ((.ref a, .kt ds) :: r)
  | dK {a ks kvs r} : S a = some (.dK ks) → ks.map (·.1) = kvs.map (·.1) → RpI K S ((ks.map (·.2)).zip (kvs.map (·.2))) → RpI K S r → RpI K S ((.ref a, .dK kvs) :: r)
  | dT {a ks kvs r} : S a = some (.dT ks) → ks.map (·.1) = kvs.map (·.1) → RpI K S ((ks.map (·.2)).zip (kvs.map (·.2))) → RpI K S r → RpI K S ((.ref a, .dT kvs) :: r)
  | ins {a C dx fs gs r} : S a = some (.ins (He.ga K C) dx fs) → fs.map (·.1) = gs.map (·.1) → RpI K S ((fs.map (·.2)).zip (gs.map (·.2))) → RpI K S r → RpI K S ((.ref a, .ins C gs) :: r)

abbrev Rp (K : PySem.W.Frag) (S : Hp) (v : V) (d : D) : Prop := RpI K S [(v, d)]

section
variable {K : PySem.W.Frag} {S S' H H' : Hp}
theorem RpI.mono (e : Ex S S') {l : List (V × D)} (h : RpI K S l) : RpI K S' l := by
  induction h with
  | nil => exact .nil
  | non _ ih => exact .non ih
  | bl _ ih => exact .bl ih
  | int _ ih => exact .int ih
  | str _ ih => exact .str ih
  | raw _ ih => exact .raw ih
  | scr a _ ih => exact .scr (ex_l e a) ih
  | lst a b _ _ i1 i2 => exact .lst (e _ _ a) b i1 i2
  | tup a b _ _ i1 i2 => exact .tup (e _ _ a) b i1 i2
  | kt a b _ _ i1 i2 => exact .kt (ex_t e a) b i1 i2
  | dK a b _ _ i1 i2 => exact .dK (e _ _ a) b i1 i2
  | dT a b _ _ i1 i2 => exact .dT (e _ _ a) b i1 i2
  | ins a b _ _ i1 i2 => exact .ins (e _ _ a) b i1 i2
theorem RpI.head {p : V × D} {r : List (V × D)} (h : RpI K S (p :: r)) : Rp K S p.1 p.2 := by
  cases h with
  | non _ => exact .non .nil
  | bl _ => exact .bl .nil
  | int _ => exact .int .nil
  | str _ => exact .str .nil
  | raw _ => exact .raw .nil
  | scr a _ => exact .scr a .nil
  | lst a b c _ => exact .lst a b c .nil
  | tup a b c _ => exact .tup a b c .nil
  | kt a b c _ => exact .kt a b c .nil
  | dK a b c _ => exact .dK a b c .nil
  | dT a b c _ => exact .dT a b c .nil
  | ins a b c _ => exact .ins a b c .nil
theorem RpI.tail {p : V × D} {r : List (V × D)} (h : RpI K S (p :: r)) : RpI K S r := by
  cases h <;> assumption
theorem RpI.cons {v : V} {d : D} {r : List (V × D)} (h : Rp K S v d) (t : RpI K S r) : RpI K S ((v, d) :: r) := by
  cases h with
  | non _ => exact .non t
  | bl _ => exact .bl t
  | int _ => exact .int t
  | str _ => exact .str t
  | raw _ => exact .raw t
  | scr a _ => exact .scr a t
  | lst a b c _ => exact .lst a b c t
  | tup a b c _ => exact .tup a b c t
  | kt a b c _ => exact .kt a b c t
  | dK a b c _ => exact .dK a b c t
  | dT a b c _ => exact .dT a b c t
  | ins a b c _ => exact .ins a b c t
theorem RpI.all : ∀ {l : List (V × D)}, RpI K S l ↔ ∀ p ∈ l, Rp K S p.1 p.2
  | [] => ⟨(fun _ p hp => nomatch hp), (fun _ => RpI.nil)⟩
  | p :: r => ⟨(fun h q hq => by
      rcases List.mem_cons.mp hq with rfl | hq
      · exact h.head
      · exact (RpI.all.mp h.tail) q hq), fun h => .cons (h p List.mem_cons_self) (RpI.all.mpr fun q hq => h q (List.mem_cons_of_mem _ hq))⟩
theorem RpI.append {a b : List (V × D)} (h1 : RpI K S a) (h2 : RpI K S b) : RpI K S (a ++ b) := RpI.all.mpr fun p hp => by
  rcases List.mem_append.mp hp with h | h
  · exact RpI.all.mp h1 p h
  · exact RpI.all.mp h2 p h
theorem RpI.sub {a b : List (V × D)} (h : RpI K S a) (s : ∀ p ∈ b, p ∈ a) : RpI K S b := RpI.all.mpr fun p hp => RpI.all.mp h p (s p hp)
end

/-! ### owned things -/
abbrev It := V × OD
inductive OwI (K : PySem.W.Frag) (S H : Hp) : List It → List Addr → Prop
  | nil : OwI K S H [] []
  | st {v d r fp} : Rp K S v d → OwI K S H r fp → OwI K S H ((v, .st d) :: r) fp
  | ol {p vs os r f1 f2} : H p = some (.lst vs) → vs.length = os.length → OwI K S H (vs.zip os) f1 → OwI K S H r f2 → OwI K S H ((.ref p, .ol os) :: r) (p :: (f1 ++ f2))
  | oK {p ks kvs r f1 f2} : H p = some (.dK ks) → ks.map (·.1) = kvs.map (·.1) → OwI K S H ((ks.map (·.2)).zip (kvs.map (·.2))) f1 → OwI K S H r f2 → OwI K S H ((.ref p, .oK kvs) :: r) (p :: (f1 ++ f2))
  | oT {p ks kvs r f1 f2} : H p = some (.dT ks) → ks.map (·.1) = kvs.map (·.1) → OwI K S H ((ks.map (·.2)).zip (kvs.map (·.2))) f1 → OwI K S H r f2 → OwI K S H ((.ref p, .oT kvs) :: r) (p :: (f1 ++ f2))
  | oi {p C dx vs kvs r f1 f2} : H p = some (.ins (He.ga K C) dx vs) → vs.map (·.1) = kvs.map (·.1) → OwI K S H ((vs.map (·.2)).zip (kvs.map (·.2))) f1 → OwI K S H r f2 → OwI K S H ((.ref p, .oi C kvs) :: r) (p :: (f1 ++ f2))
  | cell {p o r f2} : H p = some o → OwI K S H r f2 → OwI K S H ((.ref p, .cell p o) :: r) (p :: f2)

section
variable {K : PySem.W.Frag} {S S' H H' : Hp}
theorem OwI.append {a b : List It} {f g : List Addr} (h1 : OwI K S H a f) (h2 : OwI K S H b g) : OwI K S H (a ++ b) (f ++ g) := by
  induction h1 with
  | nil => exact h2
  | st r _ ih => exact .st r ih
  | ol e l c _ i1 i2 => simp only [List.cons_append, List.append_assoc]; exact .ol e l c i2
  | oK e l c _ i1 i2 => simp only [List.cons_append, List.append_assoc]; exact .oK e l c i2
  | oT e l c _ i1 i2 => simp only [List.cons_append, List.append_assoc]; exact .oT e l c i2
  | oi e l c _ i1 i2 => simp only [List.cons_append, List.append_assoc]; exact .oi e l c i2
  | cell e _ i2 => exact .cell e i2
theorem OwI.split : ∀ {a b : List It} {fp : List Addr}, OwI K S H (a ++ b) fp → ∃ f g, fp = f ++ g ∧ OwI K S H a f ∧ OwI K S H b g
  | [], b, fp, h => ⟨[], fp, rfl, .nil, h⟩
  | x :: a, b, fp, h => by
    rw [List.cons_append] at h
    cases h with
    | st r t =>
      obtain ⟨f, g, e, h1, h2⟩ := OwI.split t
      exact ⟨f, g, e, .st r h1, h2⟩
    | ol e l c t =>
      obtain ⟨f, g, rfl, h1, h2⟩ := OwI.split t
      exact ⟨_, g, by rw [List.cons_append, List.append_assoc], .ol e l c h1, h2⟩
    | oK e l c t =>
      obtain ⟨f, g, rfl, h1, h2⟩ := OwI.split t
      exact ⟨_, g, by rw [List.cons_append, List.append_assoc], .oK e l c h1, h2⟩
    | oT e l c t =>
      obtain ⟨f, g, rfl, h1, h2⟩ := OwI.split t
      exact ⟨_, g, by rw [List.cons_append, List.append_assoc], .oT e l c h1, h2⟩
    | oi e l c t =>
      obtain ⟨f, g, rfl, h1, h2⟩ := OwI.split t
      exact ⟨_, g, by rw [List.cons_append, List.append_assoc], .oi e l c h1, h2⟩
    | cell e t =>
      obtain ⟨f, g, rfl, h1, h2⟩ := OwI.split t
      exact ⟨_, g, List.cons_append.symm, .cell e h1, h2⟩
theorem OwI.mono {l : List It} {fp : List Addr} (h : OwI K S H l fp) (e : Ex S S') (q : ∀ a ∈ fp, H' a = H a) : OwI K S' H' l fp := by
  induction h with
  | nil => exact .nil
  | st r _ ih => exact .st (r.mono e) (ih q)
  | ol a l _ _ i1 i2 => exact .ol ((q _ List.mem_cons_self).trans a) l (i1 fun x hx => q x (List.mem_cons_of_mem _ (List.mem_append_left _ hx))) (i2 fun x hx => q x (List.mem_cons_of_mem _ (List.mem_append_right _ hx)))
  | oK a l _ _ i1 i2 => exact .oK ((q _ List.mem_cons_self).trans a) l (i1 fun x hx => q x (List.mem_cons_of_mem _ (List.mem_append_left _ hx))) (i2 fun x hx => q x (List.mem_cons_of_mem _ (List.mem_append_right _ hx)))
  | oT a l _ _ i1 i2 => exact .oT ((q _ List.mem_cons_self).trans a) l (i1 fun x hx => q x (List.mem_cons_of_mem _ (List.mem_append_left _ hx))) (i2 fun x hx => q x (List.mem_cons_of_mem _ (List.mem_append_right _ hx)))
  | oi a l _ _ i1 i2 => exact .oi ((q _ List.mem_cons_self).trans a) l (i1 fun x hx => q x (List.mem_cons_of_mem _ (List.mem_append_left _ hx))) (i2 fun x hx => q x (List.mem_cons_of_mem _ (List.mem_append_right _ hx)))
  | cell a _ i2 => exact .cell ((q _ List.mem_cons_self).trans a) (i2 fun x hx => q x (List.mem_cons_of_mem _ hx))
theorem OwI.there {l : List It} {fp : List Addr} (h : OwI K S H l fp) : ∀ a ∈ fp, ∃ o, H a = some o := by
  induction h with
  | nil => intro a ha; cases ha
  | st _ _ ih => exact ih
  | cell a _ i2 =>
    intro x hx
    rcases List.mem_cons.mp hx with rfl | hx
    · exact ⟨_, a⟩
    · exact i2 x hx
  | ol a _ _ _ i1 i2 | oK a _ _ _ i1 i2 | oT a _ _ _ i1 i2 | oi a _ _ _ i1 i2 =>
    intro x hx
    rcases List.mem_cons.mp hx with rfl | hx
    · exact ⟨_, a⟩
    · rcases List.mem_append.mp hx with hx | hx
      · exact i1 x hx
      · exact i2 x hx
theorem OwI.perm {l l' : List It} (p : l.Perm l') : ∀ {fp : List Addr}, OwI K S H l fp → ∃ fp', OwI K S H l' fp' ∧ fp'.Perm fp := by
  induction p with
  | nil => exact fun h => ⟨_, h, .refl _⟩
  | cons x _ ih =>
    intro fp h
    obtain ⟨f, g, rfl, h1, h2⟩ := OwI.split (a := [x]) h
    obtain ⟨g', h3, q⟩ := ih h2
    exact ⟨f ++ g', h1.append h3, q.append_left f⟩
  | swap x y l =>
    intro fp h
    obtain ⟨f, g, rfl, h1, h2⟩ := OwI.split (a := [y]) h
    obtain ⟨f', g', rfl, h3, h4⟩ := OwI.split (a := [x]) h2
    refine ⟨f' ++ (f ++ g'), h3.append (h1.append h4), ?_⟩
    rw [← List.append_assoc, ← List.append_assoc]
    exact List.perm_append_comm.append_right g'
  | trans _ _ i1 i2 =>
    intro fp h
    obtain ⟨f1, h1, p1⟩ := i1 h
    obtain ⟨f2, h2, p2⟩ := i2 h1
    exact ⟨f2, h2, p2.trans p1⟩
def vals (l : List It) : List (V × D) := l.map fun p => (p.1, p.2.val)
theorem vals_zip : ∀ (vs : List V) (os : List OD), vals (vs.zip os) = vs.zip (os.map OD.val)
  | [], _ => rfl
  | _ :: _, [] => rfl
  | v :: vs, o :: os => by
    show (v, o.val) :: vals (vs.zip os) = _
    rw [vals_zip vs os]; rfl
theorem OwI.frozen {l : List It} {fp : List Addr} (h : OwI K S H l fp) : ∀ {S' : Hp}, Ex S S' → (∀ a ∈ fp, S' a = H a) → RpI K S' (vals l) := by
  induction h with
  | nil => exact fun _ _ => .nil
  | st r _ ih => exact fun e q => .cons (r.mono e) (ih e q)
  | ol a l _ _ i1 i2 =>
    intro S' e q
    have h1 := i1 e fun x hx => q x (List.mem_cons_of_mem _ (List.mem_append_left _ hx))
    have h2 := i2 e fun x hx => q x (List.mem_cons_of_mem _ (List.mem_append_right _ hx))
    rw [vals_zip] at h1
    refine RpI.lst (ds := valL _) ((q _ List.mem_cons_self).trans a) ?_ ?_ h2
    · rw [valL_map]; simpa using l
    · rw [valL_map]; exact h1
  | oK a l _ _ i1 i2 =>
    intro S' e q
    have h1 := i1 e fun x hx => q x (List.mem_cons_of_mem _ (List.mem_append_left _ hx))
    have h2 := i2 e fun x hx => q x (List.mem_cons_of_mem _ (List.mem_append_right _ hx))
    rw [vals_zip] at h1
    refine RpI.dK (kvs := valK _) ((q _ List.mem_cons_self).trans a) ?_ ?_ h2
    · rw [valK_map, l]; simp
    · rw [valK_map]; rw [List.map_map] at h1 ⊢; exact h1
  | oT a l _ _ i1 i2 =>
    intro S' e q
    have h1 := i1 e fun x hx => q x (List.mem_cons_of_mem _ (List.mem_append_left _ hx))
    have h2 := i2 e fun x hx => q x (List.mem_cons_of_mem _ (List.mem_append_right _ hx))
    rw [vals_zip] at h1
    refine RpI.dT (kvs := valT _) ((q _ List.mem_cons_self).trans a) ?_ ?_ h2
    · rw [valT_map, l]; simp
    · rw [valT_map]; rw [List.map_map] at h1 ⊢; exact h1
  | oi a l _ _ i1 i2 =>
    intro S' e q
    have h1 := i1 e fun x hx => q x (List.mem_cons_of_mem _ (List.mem_append_left _ hx))
    have h2 := i2 e fun x hx => q x (List.mem_cons_of_mem _ (List.mem_append_right _ hx))
    rw [vals_zip] at h1
    refine RpI.ins (gs := valF _) ((q _ List.mem_cons_self).trans a) ?_ ?_ h2
    · rw [valF_map, l]; simp
    · rw [valF_map]; rw [List.map_map] at h1 ⊢; exact h1
  | cell a _ i2 => exact fun e q => .raw (i2 e fun x hx => q x (List.mem_cons_of_mem _ hx))

/-- the items are owned, apart from one another, from what is stable, and from the addresses ex -/
def Own (K : PySem.W.Frag) (S H : Hp) (ex : List Addr) (l : List It) : Prop :=
  Ex S H ∧ ∃ fp, OwI K S H l fp ∧ fp.Nodup ∧ (∀ a ∈ fp, S a = none) ∧ ∀ p ∈ ex, p ∉ fp ∧ S p = none
variable {ex : List Addr} {l l' r : List It}
theorem Own.le (h : Own K S H ex l) : Ex S H := h.1
theorem Own.perm (h : Own K S H ex l) (p : l.Perm l') : Own K S H ex l' := by
  obtain ⟨e, fp, o, nd, sn, x⟩ := h
  obtain ⟨fp', o', q⟩ := o.perm p
  exact ⟨e, fp', o', q.nodup_iff.mpr nd, fun a ha => sn a (q.mem_iff.mp ha), fun a ha => ⟨fun z => (x a ha).1 (q.mem_iff.mp z), (x a ha).2⟩⟩
theorem Own.drop (h : Own K S H ex (r ++ l)) : Own K S H ex l := by
  obtain ⟨e, fp, o, nd, sn, x⟩ := h
  obtain ⟨f, g, rfl, _, h2⟩ := o.split
  exact ⟨e, g, h2, (List.nodup_append.mp nd).2.1, fun a ha => sn a (List.mem_append_right _ ha), fun a ha => ⟨fun z => (x a ha).1 (List.mem_append_right _ z), (x a ha).2⟩⟩
theorem Own.tl {x : It} (h : Own K S H ex (x :: l)) : Own K S H ex l := Own.drop (r := [x]) h
theorem Own.sub (h : Own K S H ex l) (p : ∃ r, l.Perm (r ++ l')) : Own K S H ex l' := by
  obtain ⟨r, q⟩ := p
  exact (h.perm q).drop
theorem Own.push {v : V} {d : D} (h : Own K S H ex l) (r : Rp K S v d) : Own K S H ex ((v, .st d) :: l) := by
  obtain ⟨e, fp, o, z⟩ := h
  exact ⟨e, fp, .st r o, z⟩
theorem Own.known {v : V} {d : D} (h : Own K S H ex ((v, .st d) :: l)) : Rp K S v d := by
  obtain ⟨_, _, o, _⟩ := h
  cases o with
  | st r _ => exact r
theorem Own.alloc {p : Addr} {o : HO} (h : Own K S H ex l) (n : H p = none) : Own K S (upd H p o) ex l := by
  obtain ⟨e, fp, w, z⟩ := h
  refine ⟨ex_upd e (ex_none e n), fp, w.mono (ex_refl S) fun a ha => upd_ne ?_, z⟩
  obtain ⟨u, hu⟩ := w.there a ha
  exact ne_of_none hu n
/-- a heap that has more -/
theorem Own.more {H' : Hp} (h : Own K S H ex l) (n : Ex H H') : Own K S H' ex l := by
  obtain ⟨e, fp, w, z⟩ := h
  refine ⟨ex_trans e n, fp, w.mono (ex_refl S) fun a ha => ?_, z⟩
  obtain ⟨u, hu⟩ := w.there a ha
  rw [hu]; exact n a u hu
/-- a stable object more -/
theorem Own.stable {p : Addr} {o : HO} (h : Own K S H [] l) (n : H p = none) : Own K (upd S p o) (upd H p o) [] l := by
  obtain ⟨e, fp, w, nd, sn, _⟩ := h
  have ne : ∀ a ∈ fp, a ≠ p := fun a ha => by
    obtain ⟨u, hu⟩ := w.there a ha
    exact ne_of_none hu n
  exact ⟨ex_both e, fp, w.mono (ex_new (ex_none e n)) fun a ha => upd_ne (ne a ha), nd, fun a ha => by rw [upd_ne (ne a ha)]; exact sn a ha, fun _ z => nomatch z⟩
theorem Own.freeze (h : Own K S H ex (r ++ l)) : ∃ S', Ex S S' ∧ RpI K S' (vals r) ∧ Own K S' H ex l := by
  obtain ⟨e, fp, w, nd, sn, x⟩ := h
  obtain ⟨f, g, rfl, h1, h2⟩ := w.split
  have nd2 := List.nodup_append.mp nd
  refine ⟨fun a => if a ∈ f then H a else S a, fun a o q => ?_, h1.frozen (fun a o q => ?_) (fun a ha => if_pos ha), fun a o q => ?_, g, h2.mono (fun a o q => ?_) (fun _ _ => rfl), nd2.2.1, fun a ha => ?_, fun p hp => ⟨fun z => (x p hp).1 (List.mem_append_right _ z), ?_⟩⟩
  · by_cases z : a ∈ f
    · rw [sn a (List.mem_append_left _ z)] at q; cases q
    · simp only [if_neg z]; exact q
  · by_cases z : a ∈ f
    · rw [sn a (List.mem_append_left _ z)] at q; cases q
    · simp only [if_neg z]; exact q
  · by_cases z : a ∈ f
    · simp only [if_pos z] at q; exact q
    · simp only [if_neg z] at q; exact e a o q
  · by_cases z : a ∈ f
    · rw [sn a (List.mem_append_left _ z)] at q; cases q
    · simp only [if_neg z]; exact q
  · have z : a ∉ f := fun z => nd2.2.2 a z a ha rfl
    simp only [if_neg z]; exact sn a (List.mem_append_right _ ha)
  · have z : p ∉ f := fun z => (x p hp).1 (List.mem_append_left _ z)
    simp only [if_neg z]; exact (x p hp).2
/-- one item frozen -/
theorem Own.freeze1 {v : V} {o : OD} (h : Own K S H ex ((v, o) :: l)) : ∃ S', Ex S S' ∧ Own K S' H ex ((v, .st o.val) :: l) := by
  obtain ⟨S', e, q, w⟩ := Own.freeze (r := [(v, o)]) h
  exact ⟨S', e, w.push q⟩
/-- a list is opened: its items stand by themselves -/
theorem Own.open_ {p : Addr} {os : List OD} (h : Own K S H ex ((.ref p, .ol os) :: l)) : ∃ vs, H p = some (.lst vs) ∧ vs.length = os.length ∧ p ∉ ex ∧ Own K S H (p :: ex) (vs.zip os ++ l) := by
  obtain ⟨e, fp, w, nd, sn, x⟩ := h
  cases w with
  | ol a len c t =>
    obtain ⟨n1, n2⟩ := List.nodup_cons.mp nd
    refine ⟨_, a, len, fun z => (x p z).1 List.mem_cons_self, e, _, c.append t, n2, fun a ha => sn a (List.mem_cons_of_mem _ ha), fun q hq => ?_⟩
    rcases List.mem_cons.mp hq with rfl | hq
    · exact ⟨n1, sn _ List.mem_cons_self⟩
    · exact ⟨fun z => (x q hq).1 (List.mem_cons_of_mem _ z), (x q hq).2⟩
/-- .. and closed, with other items -/
theorem Own.close {p : Addr} {us : List V} {os : List OD} (h : Own K S H (p :: ex) (us.zip os ++ l)) (len : us.length = os.length) (hp : p ∉ ex) : Own K S (upd H p (.lst us)) ex ((.ref p, .ol os) :: l) := by
  obtain ⟨e, fp, w, nd, sn, x⟩ := h
  obtain ⟨np, sp⟩ := x p List.mem_cons_self
  have w' : OwI K S (upd H p (.lst us)) (us.zip os ++ l) fp := w.mono (ex_refl S) fun a ha => upd_ne fun z => np (z ▸ ha)
  obtain ⟨f, g, rfl, h1, h2⟩ := w'.split
  refine ⟨ex_upd e sp, p :: (f ++ g), .ol upd_same len h1 h2, List.nodup_cons.mpr ⟨np, nd⟩, fun a ha => ?_, fun q hq => ?_⟩
  · rcases List.mem_cons.mp ha with rfl | ha
    · exact sp
    · exact sn a ha
  · obtain ⟨z1, z2⟩ := x q (List.mem_cons_of_mem _ hq)
    refine ⟨fun z => ?_, z2⟩
    rcases List.mem_cons.mp z with rfl | z
    · exact hp hq
    · exact z1 z
end
end Qy
set_option Elab.async false
set_option linter.all false
set_option maxRecDepth 100000
set_option maxHeartbeats 2000000
namespace Qy
open PySem PySem.Spec PyProof.Rows L2

/-! ### the slots -/
abbrev Rho := List (Option OD)
def its : Rho → L2.St → List It
  | some o :: ρ, some v :: σ => (v, o) :: its ρ σ
  | some _ :: ρ, none :: σ => its ρ σ
  | none :: ρ, _ :: σ => its ρ σ
  | [], _ => []
  | _ :: _, [] => []
theorem its_clr : ∀ (ρ : Rho) (σ : L2.St) (i : Nat) (x : Option V), its (ρ.set i none) (σ.set i x) = its (ρ.set i none) σ
  | [], _, _, _ => by simp [its]
  | a :: ρ, [], i, x => by simp
  | a :: ρ, b :: σ, 0, x => by simp [its]
  | none :: ρ, b :: σ, i + 1, x => by simpa [its] using its_clr ρ σ i x
  | some o :: ρ, none :: σ, i + 1, x => by simpa [its] using its_clr ρ σ i x
  | some o :: ρ, some v :: σ, i + 1, x => by simpa [its] using its_clr ρ σ i x
theorem its_put : ∀ (ρ : Rho) (σ : L2.St) (i : Nat) (v : V) (o : OD), i < ρ.length → σ[i]? = some (some v) → (its (ρ.set i (some o)) σ).Perm ((v, o) :: its (ρ.set i none) σ)
  | [], _, i, _, _, h, _ => absurd h (Nat.not_lt_zero i)
  | a :: ρ, [], i, v, o, _, h => by simp at h
  | a :: ρ, b :: σ, 0, v, o, _, h => by
    have e : b = some v := by simpa using h
    subst e
    simp [its]
  | none :: ρ, b :: σ, i + 1, v, o, hl, h => by
    simpa [its] using its_put ρ σ i v o (by simpa using hl) (by simpa using h)
  | some u :: ρ, none :: σ, i + 1, v, o, hl, h => by
    simpa [its] using its_put ρ σ i v o (by simpa using hl) (by simpa using h)
  | some u :: ρ, some w :: σ, i + 1, v, o, hl, h => by
    simp only [List.set_cons_succ, its]
    exact ((its_put ρ σ i v o (by simpa using hl) (by simpa using h)).cons _).trans (.swap _ _ _)
theorem set_self {α : Type} : ∀ (l : List α) (i : Nat) (a : α), l[i]? = some a → l.set i a = l
  | [], i, a, h => by simp at h
  | b :: l, 0, a, h => by simp at h; simp [h]
  | b :: l, i + 1, a, h => by simp at h; simp [set_self l i a h]
theorem its_take (ρ : Rho) (σ : L2.St) (i : Nat) (v : V) (o : OD) (h1 : ρ[i]? = some (some o)) (h2 : σ[i]? = some (some v)) : (its ρ σ).Perm ((v, o) :: its (ρ.set i none) σ) := by
  have h := its_put ρ σ i v o (List.getElem?_eq_some_iff.mp h1).1 h2
  rw [set_self ρ i _ h1] at h
  exact h
theorem its_sub : ∀ (ρ : Rho) (σ : L2.St) (i : Nat), ∃ r, (its ρ σ).Perm (r ++ its (ρ.set i none) σ)
  | [], σ, i => ⟨[], by simp [its]⟩
  | a :: ρ, [], i => ⟨[], by cases i <;> cases a <;> simp [its]⟩
  | none :: ρ, b :: σ, 0 => ⟨[], by simp [its]⟩
  | some o :: ρ, none :: σ, 0 => ⟨[], by simp [its]⟩
  | some o :: ρ, some v :: σ, 0 => ⟨[(v, o)], by simp [its]⟩
  | none :: ρ, b :: σ, i + 1 => by obtain ⟨r, h⟩ := its_sub ρ σ i; exact ⟨r, by simpa [its] using h⟩
  | some o :: ρ, none :: σ, i + 1 => by obtain ⟨r, h⟩ := its_sub ρ σ i; exact ⟨r, by simpa [its] using h⟩
  | some o :: ρ, some v :: σ, i + 1 => by
    obtain ⟨r, h⟩ := its_sub ρ σ i
    refine ⟨r, ?_⟩
    simp only [List.set_cons_succ, its]
    exact (h.cons _).trans List.perm_middle.symm

structure Sat (K : PySem.W.Frag) (pin : List (Option V)) (S H : Hp) (T : List It) (ρ : Rho) (σ : L2.St) (F : List It) : Prop where
  own : Own K S H [] (T ++ (its ρ σ ++ F))
  wf : ∀ (i : Nat) o, ρ[i]? = some (some o) → ∃ v, σ[i]? = some (some v)
  len : ρ.length = σ.length
  pin : ∀ (i : Nat) v, pin[i]? = some (some v) → σ[i]? = some (some v)

section
variable {K : PySem.W.Frag} {pin : List (Option V)} {S S' H H' : Hp} {T T' F F' : List It} {ρ ρ' : Rho} {σ : L2.St} {v : V} {o : OD} {d : D}
theorem Sat.with (h : Sat K pin S H T ρ σ F) (w : Own K S' H' [] (T' ++ (its ρ σ ++ F'))) : Sat K pin S' H' T' ρ σ F' := ⟨w, h.wf, h.len, h.pin⟩
theorem Sat.tl {x : It} (h : Sat K pin S H (x :: T) ρ σ F) : Sat K pin S H T ρ σ F := h.with h.own.tl
theorem Sat.push (h : Sat K pin S H T ρ σ F) (r : Rp K S v d) : Sat K pin S H ((v, .st d) :: T) ρ σ F := h.with (h.own.push r)
theorem Sat.known (h : Sat K pin S H ((v, .st d) :: T) ρ σ F) : Rp K S v d := h.own.known
theorem Sat.le (h : Sat K pin S H T ρ σ F) : Ex S H := h.own.le
theorem Sat.frz (h : Sat K pin S H ((v, o) :: T) ρ σ F) : ∃ S', Ex S S' ∧ Sat K pin S' H ((v, .st o.val) :: T) ρ σ F := by
  obtain ⟨S', e, w⟩ := h.own.freeze1
  exact ⟨S', e, h.with w⟩
theorem perm_mid {a : It} {T R F : List It} {R' : List It} (p : R.Perm (a :: R')) : (T ++ (R ++ F)).Perm (a :: (T ++ (R' ++ F))) :=
  ((p.append_right F).append_left T).trans List.perm_middle
/-- a slot's thing is put back -/
theorem Sat.back {i : Nat} (h : Sat K pin S H ((v, o) :: T) ρ σ F) (hv : σ[i]? = some (some v)) : Sat K pin S H T (ρ.set i (some o)) σ F := by
  have hi : i < ρ.length := by rw [h.len]; exact (List.getElem?_eq_some_iff.mp hv).1
  refine ⟨?_, fun j u hj => ?_, by simpa using h.len, h.pin⟩
  · obtain ⟨r, q⟩ := its_sub ρ σ i
    refine h.own.sub ⟨r, ?_⟩
    refine .trans ?_ ((perm_mid (T := T) (F := F) (its_put ρ σ i v o hi hv)).symm.append_left r)
    refine .trans (((q.append_right F).append_left T).cons (v, o)) ?_
    rw [List.append_assoc]
    refine .trans ?_ List.perm_middle.symm
    refine .cons _ ?_
    rw [← List.append_assoc, ← List.append_assoc r T]
    exact List.perm_append_comm.append_right _
  · by_cases e : j = i
    · subst e; exact ⟨v, hv⟩
    · rw [List.getElem?_set_ne (Ne.symm e)] at hj; exact h.wf j u hj
/-- a slot's thing is taken out -/
theorem Sat.take {i : Nat} (h : Sat K pin S H T ρ σ F) (ho : ρ[i]? = some (some o)) : ∃ v, σ[i]? = some (some v) ∧ Sat K pin S H ((v, o) :: T) (ρ.set i none) σ F := by
  obtain ⟨v, hv⟩ := h.wf i o ho
  refine ⟨v, hv, h.own.perm (perm_mid (its_take ρ σ i v o ho hv)), fun j u hj => ?_, by simpa using h.len, h.pin⟩
  by_cases e : j = i
  · subst e
    rw [List.getElem?_set_self (List.getElem?_eq_some_iff.mp ho).1] at hj; cases hj
  · rw [List.getElem?_set_ne (Ne.symm e)] at hj; exact h.wf j u hj
/-- what stands in a slot is known -/
theorem Sat.get {i : Nat} (h : Sat K pin S H T ρ σ F) (ho : ρ[i]? = some (some (.st d))) : ∃ v, σ[i]? = some (some v) ∧ Rp K S v d := by
  obtain ⟨v, hv, w⟩ := h.take ho
  exact ⟨v, hv, w.known⟩
/-- a store -/
theorem Sat.asg {i : Nat} (h : Sat K pin S H ((v, o) :: T) ρ σ F) (hi : i < ρ.length) (hp : pin[i]? = none ∨ pin[i]? = some none) : Sat K pin S H T (ρ.set i (some o)) (σ.set i (some v)) F := by
  have hi' : i < σ.length := by rw [← h.len]; exact hi
  have hv : (σ.set i (some v))[i]? = some (some v) := List.getElem?_set_self hi'
  refine ⟨?_, fun j u hj => ?_, by simpa using h.len, fun j u hj => ?_⟩
  · have h1 : Own K S H [] ((v, o) :: (T ++ (its (ρ.set i none) σ ++ F))) := by
      obtain ⟨r, q⟩ := its_sub ρ σ i
      refine h.own.sub ⟨r, ?_⟩
      refine .trans (((q.append_right F).append_left T).cons (v, o)) ?_
      rw [List.append_assoc]
      refine .trans ?_ List.perm_middle.symm
      refine .cons _ ?_
      rw [← List.append_assoc, ← List.append_assoc r T]
      exact List.perm_append_comm.append_right _
    rw [← its_clr ρ σ i (some v)] at h1
    exact h1.perm (perm_mid (its_put ρ (σ.set i (some v)) i v o hi hv)).symm
  · by_cases e : j = i
    · subst e; exact ⟨v, hv⟩
    · rw [List.getElem?_set_ne (Ne.symm e)] at hj ⊢; exact h.wf j u hj
  · by_cases e : j = i
    · subst e
      rcases hp with z | z
      · rw [z] at hj; cases hj
      · rw [z] at hj; cases hj
    · rw [List.getElem?_set_ne (Ne.symm e)]; exact h.pin j u hj
/-- forgetting a slot -/
theorem Sat.forget {i : Nat} (h : Sat K pin S H T ρ σ F) : Sat K pin S H T (ρ.set i none) σ F := by
  refine ⟨?_, fun j u hj => ?_, by simpa using h.len, h.pin⟩
  · obtain ⟨r, q⟩ := its_sub ρ σ i
    refine h.own.sub ⟨r, ((q.append_right F).append_left T).trans ?_⟩
    rw [List.append_assoc, ← List.append_assoc T, ← List.append_assoc r]
    exact List.perm_append_comm.append_right _
  · by_cases e : j = i
    · subst e
      by_cases hl : j < ρ.length
      · rw [List.getElem?_set_self hl] at hj; cases hj
      · rw [List.getElem?_eq_none (by simpa using hl)] at hj; cases hj
    · rw [List.getElem?_set_ne (Ne.symm e)] at hj; exact h.wf j u hj
end

/-! ### what is read off a reading -/
abbrev Fe := Rho → Option (OD × Rho)
abbrev Ft := Rho → Option (Bool × Rho)
abbrev Fa := Rho → Option (List OD × Rho)
/-- an operand: what it gives, and how it is put back -/
abbrev Fo := Fe × (OD → Rho → Rho)
inductive Out where
  | nx (ρ : Rho) | rt (o : OD) (ρ : Rho) | bk (ρ : Rho) | ct (ρ : Rho)
abbrev Fs := Rho → Option Out

def RE (K : PySem.W.Frag) (pin : List (Option V)) (t : TE) (f : Fe) : Prop := ∀ S H T ρ σ F Q od ρ', Sat K pin S H T ρ σ F → f ρ = some (od, ρ') →
  (∀ v S' H', Ex S S' → Sat K pin S' H' ((v, od) :: T) ρ' σ F → Q v H') → t σ H Q
def RT (K : PySem.W.Frag) (pin : List (Option V)) (t : TT) (f : Ft) : Prop := ∀ S H T ρ σ F Q b ρ', Sat K pin S H T ρ σ F → f ρ = some (b, ρ') →
  (∀ S' H', Ex S S' → Sat K pin S' H' T ρ' σ F → Q b H') → t σ H Q
def RA (K : PySem.W.Frag) (pin : List (Option V)) (t : TA) (f : Fa) : Prop := ∀ S H T ρ σ F Q ods ρ', Sat K pin S H T ρ σ F → f ρ = some (ods, ρ') →
  (∀ vs S' H', Ex S S' → vs.length = ods.length → Sat K pin S' H' (vs.zip ods ++ T) ρ' σ F → Q vs H') → t σ H Q
def Rst (K : PySem.W.Frag) (pin : List (Option V)) (σ : L2.St) (F : List It) (v : V) (rst : OD → Rho → Rho) : Prop :=
  ∀ S H T ρ o, Sat K pin S H ((v, o) :: T) ρ σ F → Sat K pin S H T (rst o ρ) σ F
def RO (K : PySem.W.Frag) (pin : List (Option V)) (t : TE) (a : Fo) : Prop := ∀ S H T ρ σ F Q od ρ', Sat K pin S H T ρ σ F → a.1 ρ = some (od, ρ') →
  (∀ v S' H', Ex S S' → Sat K pin S' H' ((v, od) :: T) ρ' σ F → Rst K pin σ F v a.2 → Q v H') → t σ H Q
def OutOk (K : PySem.W.Frag) (pin : List (Option V)) (S : Hp) (F : List It) (E : Ends) : Out → Prop
  | .nx ρ => ∀ S' H' σ', Ex S S' → Sat K pin S' H' [] ρ σ' F → E.nx σ' H'
  | .bk ρ => ∀ S' H' σ', Ex S S' → Sat K pin S' H' [] ρ σ' F → E.bk σ' H'
  | .ct ρ => ∀ S' H' σ', Ex S S' → Sat K pin S' H' [] ρ σ' F → E.ct σ' H'
  | .rt o ρ => ∀ v S' H' σ', Ex S S' → Sat K pin S' H' [(v, o)] ρ σ' F → E.rt v H'
def RS (K : PySem.W.Frag) (pin : List (Option V)) (t : TS) (f : Fs) : Prop := ∀ S H ρ σ F E o, Sat K pin S H [] ρ σ F → f ρ = some o → OutOk K pin S F E o → t E σ H

theorem OutOk.le {K : PySem.W.Frag} {pin : List (Option V)} {S S1 : Hp} {F : List It} {E : Ends} {o : Out} (h : OutOk K pin S F E o) (e : Ex S S1) : OutOk K pin S1 F E o := by
  cases o with
  | nx ρ => exact fun S' H' σ' e' w => h S' H' σ' (ex_trans e e') w
  | bk ρ => exact fun S' H' σ' e' w => h S' H' σ' (ex_trans e e') w
  | ct ρ => exact fun S' H' σ' e' w => h S' H' σ' (ex_trans e e') w
  | rt u ρ => exact fun v S' H' σ' e' w => h v S' H' σ' (ex_trans e e') w

structure SE (X : Cx) (pin : List (Option V)) (e : Expr) (t : TE) (f : Fe) : Prop where
  pe : PE X e t
  rd : RE X.K pin t f
structure SO (X : Cx) (pin : List (Option V)) (e : Expr) (t : TE) (a : Fo) : Prop where
  pe : PE X e t
  rd : RO X.K pin t a
structure STs (X : Cx) (pin : List (Option V)) (e : Expr) (t : TT) (f : Ft) : Prop where
  pe : PT X e t
  rd : RT X.K pin t f
structure SA (X : Cx) (pin : List (Option V)) (es : List Expr) (t : TA) (f : Fa) : Prop where
  pe : PA X es t
  rd : RA X.K pin t f
structure SS (X : Cx) (pin : List (Option V)) (s : Stmt) (t : TS) (f : Fs) : Prop where
  pe : PS X s t
  rd : RS X.K pin t f
structure SB (X : Cx) (pin : List (Option V)) (s : List Stmt) (t : TS) (f : Fs) : Prop where
  pe : PSs X s t
  rd : RS X.K pin t f

/-! ### operands -/
def fDrop : OD → Rho → Rho := fun _ ρ => ρ
def fBack (i : Nat) : OD → Rho → Rho := fun o ρ => ρ.set i (some o)
/-- a slot's thing as an operand: what is stable stays there, what is owned is lent -/
def fPeek (i : Nat) : Fe := fun ρ => match ρ[i]? with
  | some (some (.st d)) => some (.st d, ρ)
  | some (some o) => some (o, ρ.set i none)
  | _ => none
abbrev fP (i : Nat) : Fo := (fPeek i, fBack i)
abbrev fE (f : Fe) : Fo := (f, fDrop)
section
variable {X : Cx} {pin : List (Option V)} {K : PySem.W.Frag} {e : Expr} {t : TE} {f : Fe}
theorem RE.o (h : RE K pin t f) : RO K pin t (fE f) := fun S H T ρ σ F Q od ρ' w e k =>
  h S H T ρ σ F Q od ρ' w e fun v S' H' x w' => k v S' H' x w' fun _ _ _ _ _ z => z.tl
theorem SE.o (h : SE X pin e t f) : SO X pin e t (fE f) := ⟨h.pe, h.rd.o⟩
theorem rst_back {σ : L2.St} {F : List It} {v : V} {i : Nat} (hv : σ[i]? = some (some v)) : Rst K pin σ F v (fBack i) := fun _ _ _ _ _ w => w.back hv
theorem ro_var (i : Nat) : RO K pin (tVar i) (fP i) := by
  intro S H T ρ σ F Q od ρ' w e k
  have e' : fPeek i ρ = some (od, ρ') := e
  unfold fPeek at e'
  split at e'
  · rename_i d hd
    cases e'
    obtain ⟨v, hv, r⟩ := w.get hd
    exact ⟨v, hv, k v S H (ex_refl S) (w.push r) (rst_back hv)⟩
  · rename_i o hn ho
    cases e'
    obtain ⟨v, hv, w'⟩ := w.take ho
    exact ⟨v, hv, k v S H (ex_refl S) w' (rst_back hv)⟩
  · cases e'
theorem so_var (i : Nat) {x : Str} {pos : Pos} (hN : X.N[i]? = some x := by rfl) (hv : Vis X.env.scope x := by first | exact Or.inl rfl | exact Or.inr (Or.inl rfl) | exact Or.inr (Or.inr rfl)) (hd : (x == ("__debug__" : Str)) = false := by decide)
    (hcd : (x == ("__classdict__" : Str)) = false := by decide) : SO X pin (.Name x pos) (tVar i) (fP i) := ⟨pe_var hN hv hd hcd, ro_var i⟩
/-- an operand, frozen, as a value -/
def fFz (a : Fo) : Fe := fun ρ => (a.1 ρ).map fun p => (.st p.1.val, a.2 (.st p.1.val) p.2)
theorem RO.fz {a : Fo} (h : RO K pin t a) : RE K pin t (fFz a) := by
  intro S H T ρ σ F Q od ρ' w e k
  unfold fFz at e
  cases q : a.1 ρ with
  | none => rw [q] at e; cases e
  | some p =>
    obtain ⟨o, ρ1⟩ := p
    rw [q] at e; cases e
    refine h S H T ρ σ F Q o ρ1 w q fun v S' H' x w' rs => ?_
    obtain ⟨S2, e2, w2⟩ := w'.frz
    have w3 := rs S2 H' _ ρ1 _ (w2.push w2.known)
    exact k v S2 H' (ex_trans x e2) w3
theorem SO.fz {a : Fo} (h : SO X pin e t a) : SE X pin e t (fFz a) := ⟨h.pe, h.rd.fz⟩
/-- a slot's thing, moved out -/
def fMov (i : Nat) : Fe := fun ρ => match ρ[i]? with
  | some (some o) => some (o, ρ.set i none)
  | _ => none
theorem re_mov (i : Nat) : RE K pin (tVar i) (fMov i) := by
  intro S H T ρ σ F Q od ρ' w e k
  unfold fMov at e
  split at e
  · rename_i o ho
    cases e
    obtain ⟨v, hv, w'⟩ := w.take ho
    exact ⟨v, hv, k v S H (ex_refl S) w'⟩
  · cases e
theorem se_mov (i : Nat) {x : Str} {pos : Pos} (hN : X.N[i]? = some x := by rfl) (hv : Vis X.env.scope x := by first | exact Or.inl rfl | exact Or.inr (Or.inl rfl) | exact Or.inr (Or.inr rfl)) (hd : (x == ("__debug__" : Str)) = false := by decide)
    (hcd : (x == ("__classdict__" : Str)) = false := by decide) : SE X pin (.Name x pos) (tVar i) (fMov i) := ⟨pe_var hN hv hd hcd, re_mov i⟩

/-! ### constants -/
def fC (d : D) : Fe := fun ρ => some (.st d, ρ)
theorem re_c {v : V} {d : D} (h : ∀ S, Rp K S v d) : RE K pin (tC v) (fC d) := by
  intro S H T ρ σ F Q od ρ' w e k
  cases e
  exact k v S H (ex_refl S) (w.push (h S))
theorem se_int {i j pos} : SE X pin (.Constant (.int i) j pos) (tC (.int i)) (fC (.int i)) := ⟨pe_int, re_c fun _ => .int .nil⟩
theorem se_str {x j pos} : SE X pin (.Constant (.str x) j pos) (tC (.str x)) (fC (.str x)) := ⟨pe_str, re_c fun _ => .str .nil⟩
theorem se_bl {b j pos} : SE X pin (.Constant (.bool b) j pos) (tC (.bl b)) (fC (.bl b)) := ⟨pe_bl, re_c fun _ => .bl .nil⟩
theorem se_non {j pos} : SE X pin (.Constant .none j pos) (tC .non) (fC .non) := ⟨pe_non, re_c fun _ => .non .nil⟩
/-- a module's name: d tells what it stands for, wherever one stands -/
theorem se_glob {x : Str} {v : V} {u : Value} {d : D} {pos : Pos} (hg : Gl X x) (hm : X.mg x = some u) (r : RelV v u) (h : ∀ S, Rp X.K S v d) (hd : (x == ("__debug__" : Str)) = false := by decide) : SE X pin (.Name x pos) (tC v) (fC d) :=
  ⟨pe_glob hg hm r hd, re_c h⟩
theorem se_bltn {x : Str} {v : V} {u : Value} {pos : Pos} (hg : Gl X x) (hm : X.mg x = none) (hv : bootBuiltins x = some u) (r : RelV v u) (hn : x ≠ "__name__" := by decide) (hd : (x == ("__debug__" : Str)) = false := by decide) : SE X pin (.Name x pos) (tC v) (fC (.raw v)) :=
  ⟨pe_bltn hg hm hv r hn hd, re_c fun _ => .raw .nil⟩

/-! ### operations -/
/-- an operation of two things on what is owned: g tells its outcome -/
def RG2 (K : PySem.W.Frag) (r : R2) (g : OD → OD → Option OD) : Prop := ∀ S H L x y ox oy oz (Q : VK), Own K S H [] ((y, oy) :: (x, ox) :: L) → g ox oy = some oz →
  (∀ v S' H', Ex S S' → Own K S' H' [] ((v, oz) :: (y, oy) :: (x, ox) :: L) → Q v H') → r x y H Q
def RG1 (K : PySem.W.Frag) (r : V → Hp → VK → Prop) (g : OD → Option OD) : Prop := ∀ S H L x ox oz (Q : VK), Own K S H [] ((x, ox) :: L) → g ox = some oz →
  (∀ v S' H', Ex S S' → Own K S' H' [] ((v, oz) :: (x, ox) :: L) → Q v H') → r x H Q
def RGC (K : PySem.W.Frag) (r : List V → Hp → VK → Prop) (g : List OD → Option OD) : Prop := ∀ S H L xs os oz (Q : VK), xs.length = os.length → Own K S H [] (xs.zip os ++ L) → g os = some oz →
  (∀ v S' H', Ex S S' → Own K S' H' [] ((v, oz) :: (xs.zip os ++ L)) → Q v H') → r xs H Q
def fBin (g : OD → OD → Option OD) (a b : Fo) : Fe := fun ρ => match a.1 ρ with
  | some (oa, ρ1) => (match b.1 ρ1 with
    | some (ob, ρ2) => (match g oa ob with
      | some oz => some (oz, a.2 oa (b.2 ob ρ2))
      | none => none)
    | none => none)
  | none => none
def fUn (g : OD → Option OD) (a : Fo) : Fe := fun ρ => match a.1 ρ with
  | some (oa, ρ1) => (match g oa with
    | some oz => some (oz, a.2 oa ρ1)
    | none => none)
  | none => none
theorem perm3 {a b c : It} {l : List It} : (a :: b :: c :: l).Perm (b :: c :: a :: l) := (List.Perm.swap _ _ _).trans (.cons _ (.swap _ _ _))
theorem re_bin {r : R2} {g : OD → OD → Option OD} {ta tb : TE} {a b : Fo} (ha : RO K pin ta a) (hb : RO K pin tb b) (hr : RG2 K r g) : RE K pin (tOp r ta tb) (fBin g a b) := by
  intro S H T ρ σ F Q od ρ' w e k
  unfold fBin at e
  split at e
  · rename_i oa ρ1 q1
    split at e
    · rename_i ob ρ2 q2
      split at e
      · rename_i oz q3
        cases e
        refine ha S H T ρ σ F _ oa ρ1 w q1 fun x S1 H1 e1 w1 rs1 => ?_
        refine hb S1 H1 _ ρ1 σ F _ ob ρ2 w1 q2 fun y S2 H2 e2 w2 rs2 => ?_
        refine hr S2 H2 (T ++ (its ρ2 σ ++ F)) x y oa ob od Q w2.own q3 fun v S3 H3 e3 w3 => ?_
        have z : Sat K pin S3 H3 ((y, ob) :: (x, oa) :: (v, od) :: T) ρ2 σ F := w2.with (w3.perm perm3)
        exact k v S3 H3 (ex_trans e1 (ex_trans e2 e3)) (rs1 _ _ _ _ _ (rs2 _ _ _ _ _ z))
      · cases e
    · cases e
  · cases e
theorem re_un {r : V → Hp → VK → Prop} {g : OD → Option OD} {ta : TE} {a : Fo} (ha : RO K pin ta a) (hr : RG1 K r g) : RE K pin (tUn r ta) (fUn g a) := by
  intro S H T ρ σ F Q od ρ' w e k
  unfold fUn at e
  split at e
  · rename_i oa ρ1 q1
    split at e
    · rename_i oz q3
      cases e
      refine ha S H T ρ σ F _ oa ρ1 w q1 fun x S1 H1 e1 w1 rs1 => ?_
      refine hr S1 H1 (T ++ (its ρ1 σ ++ F)) x oa od Q w1.own q3 fun v S3 H3 e3 w3 => ?_
      have z : Sat K pin S3 H3 ((x, oa) :: (v, od) :: T) ρ1 σ F := w1.with (w3.perm (.swap _ _ _))
      exact k v S3 H3 (ex_trans e1 e3) (rs1 _ _ _ _ _ z)
    · cases e
  · cases e
/-- f(a), f(a, b) of a built-in -/
theorem re_cb1 {r : List V → Hp → VK → Prop} {g : OD → Option OD} {ta : TE} {a : Fo} (ha : RO K pin ta a) (hr : RG1 K (fun x H Q => r [x] H Q) g) : RE K pin (tCB r (tCons ta tNil)) (fUn g a) := re_un (r := fun x H Q => r [x] H Q) ha hr
theorem re_cb2 {r : List V → Hp → VK → Prop} {g : OD → OD → Option OD} {ta tb : TE} {a b : Fo} (ha : RO K pin ta a) (hb : RO K pin tb b) (hr : RG2 K (fun x y H Q => r [x, y] H Q) g) : RE K pin (tCB r (tCons ta (tCons tb tNil))) (fBin g a b) := re_bin (r := fun x y H Q => r [x, y] H Q) ha hb hr

/-! ### argument lists: each frozen -/
def fNil : Fa := fun ρ => some ([], ρ)
def fCons (f : Fe) (r : Fa) : Fa := fun ρ => match f ρ with
  | some (o, ρ1) => (match r ρ1 with
    | some (os, ρ2) => some (o :: os, ρ2)
    | none => none)
  | none => none
theorem ra_nil : RA K pin tNil fNil := by
  intro S H T ρ σ F Q od ρ' w e k
  cases e
  exact k [] S H (ex_refl S) rfl w
theorem ra_cons {r : TA} {fr : Fa} (h : RE K pin t f) (hr : RA K pin r fr) : RA K pin (tCons t r) (fCons f fr) := by
  intro S H T ρ σ F Q od ρ' w e k
  unfold fCons at e
  split at e
  · rename_i o ρ1 q1
    split at e
    · rename_i os ρ2 q2
      cases e
      refine h S H T ρ σ F _ o ρ1 w q1 fun v S1 H1 e1 w1 => ?_
      refine hr S1 H1 _ ρ1 σ F _ os ρ' w1 q2 fun vs S2 H2 e2 hl w2 => ?_
      refine k (v :: vs) S2 H2 (ex_trans e1 e2) (by simp [hl]) (w2.with (w2.own.perm ?_))
      simp only [List.zip_cons_cons, List.cons_append, List.append_assoc]
      exact List.perm_middle
    · cases e
  · cases e
theorem sa_nil : SA X pin [] tNil fNil := ⟨pa_nil, ra_nil⟩
theorem sa_cons {es : List Expr} {r : TA} {fr : Fa} (h : SE X pin e t f) (hr : SA X pin es r fr) (hs : starEach (e :: es) X.env = (false, eval e X.env) :: starEach es X.env := by rfl) : SA X pin (e :: es) (tCons t r) (fCons f fr) :=
  ⟨pa_cons h.pe hr.pe hs, ra_cons h.rd hr.rd⟩
end
end Qy
set_option Elab.async false
set_option linter.all false
set_option maxRecDepth 100000
set_option maxHeartbeats 2000000
namespace Qy
open PySem PySem.Spec PyProof.Rows L2

/-! ### what an item shows when it is read -/
def stAll : List OD → Option (List D)
  | [] => some []
  | .st d :: r => (stAll r).map (d :: ·)
  | _ :: _ => none
def stK : List (Key × OD) → Option (List (Key × D))
  | [] => some []
  | (k, .st d) :: r => (stK r).map ((k, d) :: ·)
  | _ :: _ => none
def stT : List (List Key × OD) → Option (List (List Key × D))
  | [] => some []
  | (k, .st d) :: r => (stT r).map ((k, d) :: ·)
  | _ :: _ => none
def OD.rd : OD → Option D
  | .st d => some d
  | .ol xs => (stAll xs).map .lst
  | .oK kvs => (stK kvs).map .dK
  | .oT kvs => (stT kvs).map .dT
  | .oi _ _ => none
  | .cell _ _ => none
theorem stAll_map : ∀ ds : List D, stAll (ds.map .st) = some ds
  | [] => rfl
  | d :: r => by simp [stAll, stAll_map r]
theorem stAll_eq : ∀ {os : List OD} {ds : List D}, stAll os = some ds → os = ds.map .st
  | [], ds, h => by cases h; rfl
  | .st d :: r, ds, h => by
    simp only [stAll, Option.map_eq_some_iff] at h
    obtain ⟨e, h1, rfl⟩ := h
    rw [stAll_eq h1]; rfl
  | .ol _ :: _, _, h => by cases h
  | .oK _ :: _, _, h => by cases h
  | .oT _ :: _, _, h => by cases h
  | .oi _ _ :: _, _, h => by cases h
  | .cell _ _ :: _, _, h => by cases h
theorem stK_map : ∀ ds : List (Key × D), stK (ds.map fun p => (p.1, .st p.2)) = some ds
  | [] => rfl
  | (k, d) :: r => by simp [stK, stK_map r]
theorem stK_eq : ∀ {os : List (Key × OD)} {ds : List (Key × D)}, stK os = some ds → os = ds.map fun p => (p.1, .st p.2)
  | [], ds, h => by cases h; rfl
  | (k, .st d) :: r, ds, h => by
    simp only [stK, Option.map_eq_some_iff] at h
    obtain ⟨e, h1, rfl⟩ := h
    rw [stK_eq h1]; rfl
  | (_, .ol _) :: _, _, h => by cases h
  | (_, .oK _) :: _, _, h => by cases h
  | (_, .oT _) :: _, _, h => by cases h
  | (_, .oi _ _) :: _, _, h => by cases h
  | (_, .cell _ _) :: _, _, h => by cases h
theorem stT_map : ∀ ds : List (List Key × D), stT (ds.map fun p => (p.1, .st p.2)) = some ds
  | [] => rfl
  | (k, d) :: r => by simp [stT, stT_map r]
theorem stT_eq : ∀ {os : List (List Key × OD)} {ds : List (List Key × D)}, stT os = some ds → os = ds.map fun p => (p.1, .st p.2)
  | [], ds, h => by cases h; rfl
  | (k, .st d) :: r, ds, h => by
    simp only [stT, Option.map_eq_some_iff] at h
    obtain ⟨e, h1, rfl⟩ := h
    rw [stT_eq h1]; rfl
  | (_, .ol _) :: _, _, h => by cases h
  | (_, .oK _) :: _, _, h => by cases h
  | (_, .oT _) :: _, _, h => by cases h
  | (_, .oi _ _) :: _, _, h => by cases h
  | (_, .cell _ _) :: _, _, h => by cases h

def At (K : PySem.W.Frag) (S H : Hp) (x : V) (o : OD) : Prop := ∃ fp, OwI K S H [(x, o)] fp
section
variable {K : PySem.W.Frag} {S S' H H' : Hp} {L l : List It} {x y v : V} {o : OD} {d : D} {ex : List Addr}
theorem Own.at_ (h : Own K S H ex l) (m : (x, o) ∈ l) : At K S H x o := by
  obtain ⟨a, b, rfl⟩ := List.append_of_mem m
  obtain ⟨_, fp, w, _⟩ := h
  obtain ⟨f, g, _, _, h2⟩ := w.split
  obtain ⟨f', _, _, h3, _⟩ := OwI.split (a := [(x, o)]) h2
  exact ⟨f', h3⟩
theorem Own.at0 (h : Own K S H ex ((x, o) :: l)) : At K S H x o := h.at_ List.mem_cons_self
theorem Own.at1 {p : It} (h : Own K S H ex (p :: (x, o) :: l)) : At K S H x o := h.at_ (List.mem_cons_of_mem _ List.mem_cons_self)
theorem At.st (h : At K S H x (.st d)) : Rp K S x d := by
  obtain ⟨fp, w⟩ := h
  cases w with
  | st r _ => exact r
theorem zip_st {vs : List V} {ds : List D} : ∀ {f : List Addr}, vs.length = ds.length → OwI K S H (vs.zip (ds.map .st)) f → RpI K S (vs.zip ds) := by
  induction vs generalizing ds with
  | nil => exact fun _ _ => .nil
  | cons v vs ih =>
    intro f hl w
    cases ds with
    | nil => cases hl
    | cons d ds =>
      simp only [List.map_cons, List.zip_cons_cons] at w ⊢
      cases w with
      | st r t => exact .cons r (ih (by simpa using hl) t)
theorem owi_st {vs : List V} {ds : List D} (h : RpI K S (vs.zip ds)) : OwI K S H (vs.zip (ds.map .st)) [] := by
  induction vs generalizing ds with
  | nil => exact .nil
  | cons v vs ih =>
    cases ds with
    | nil => exact .nil
    | cons d ds =>
      simp only [List.map_cons, List.zip_cons_cons] at h ⊢
      exact .st h.head (ih h.tail)
theorem At.lst {ds : List D} (h : At K S H x o) (e : Ex S H) (r : o.rd = some (.lst ds)) : ∃ a vs, x = .ref a ∧ H a = some (.lst vs) ∧ vs.length = ds.length ∧ RpI K S (vs.zip ds) := by
  cases o with
  | st d' =>
    cases r
    cases h.st with
    | lst a b c _ => exact ⟨_, _, rfl, e _ _ a, b, c⟩
  | ol os =>
    simp only [OD.rd, Option.map_eq_some_iff] at r
    obtain ⟨z, h1, h2⟩ := r
    cases h2
    have q := stAll_eq h1
    subst q
    obtain ⟨fp, w⟩ := h
    cases w with
    | ol a b c q =>
      rename_i p vs f1 f2
      have b' : vs.length = ds.length := by simpa using b
      exact ⟨_, _, rfl, a, b', zip_st b' c⟩
  | oK os => simp only [OD.rd, Option.map_eq_some_iff] at r; obtain ⟨_, _, h2⟩ := r; cases h2
  | oT os => simp only [OD.rd, Option.map_eq_some_iff] at r; obtain ⟨_, _, h2⟩ := r; cases h2
  | oi _ _ => cases r
  | cell _ _ => cases r
theorem At.dK {ds : List (Key × D)} (h : At K S H x o) (e : Ex S H) (r : o.rd = some (.dK ds)) : ∃ a ks, x = .ref a ∧ H a = some (.dK ks) ∧ ks.map (·.1) = ds.map (·.1) ∧ RpI K S ((ks.map (·.2)).zip (ds.map (·.2))) := by
  cases o with
  | st d' =>
    cases r
    cases h.st with
    | dK a b c _ => exact ⟨_, _, rfl, e _ _ a, b, c⟩
  | oK os =>
    simp only [OD.rd, Option.map_eq_some_iff] at r
    obtain ⟨z, h1, h2⟩ := r
    cases h2
    have q := stK_eq h1
    subst q
    obtain ⟨fp, w⟩ := h
    cases w with
    | oK a b c q =>
      rename_i p ks f1 f2
      have b' : ks.map (·.1) = ds.map (·.1) := by rw [b]; simp
      refine ⟨_, _, rfl, a, b', zip_st (H := H) (f := f1) ?_ ?_⟩
      · have := congrArg List.length b'
        simpa using this
      · rw [List.map_map] at c ⊢; exact c
  | ol os => simp only [OD.rd, Option.map_eq_some_iff] at r; obtain ⟨_, _, h2⟩ := r; cases h2
  | oT os => simp only [OD.rd, Option.map_eq_some_iff] at r; obtain ⟨_, _, h2⟩ := r; cases h2
  | oi _ _ => cases r
  | cell _ _ => cases r
theorem At.dT {ds : List (List Key × D)} (h : At K S H x o) (e : Ex S H) (r : o.rd = some (.dT ds)) : ∃ a ks, x = .ref a ∧ H a = some (.dT ks) ∧ ks.map (·.1) = ds.map (·.1) ∧ RpI K S ((ks.map (·.2)).zip (ds.map (·.2))) := by
  cases o with
  | st d' =>
    cases r
    cases h.st with
    | dT a b c _ => exact ⟨_, _, rfl, e _ _ a, b, c⟩
  | oT os =>
    simp only [OD.rd, Option.map_eq_some_iff] at r
    obtain ⟨z, h1, h2⟩ := r
    cases h2
    have q := stT_eq h1
    subst q
    obtain ⟨fp, w⟩ := h
    cases w with
    | oT a b c q =>
      rename_i p ks f1 f2
      have b' : ks.map (·.1) = ds.map (·.1) := by rw [b]; simp
      refine ⟨_, _, rfl, a, b', zip_st (H := H) (f := f1) ?_ ?_⟩
      · have := congrArg List.length b'
        simpa using this
      · rw [List.map_map] at c ⊢; exact c
  | ol os => simp only [OD.rd, Option.map_eq_some_iff] at r; obtain ⟨_, _, h2⟩ := r; cases h2
  | oK os => simp only [OD.rd, Option.map_eq_some_iff] at r; obtain ⟨_, _, h2⟩ := r; cases h2
  | oi _ _ => cases r
  | cell _ _ => cases r
/-- anything but a list or dict is stable -/
theorem At.plain (h : At K S H x o) (r : o.rd = some d) (n : ∀ ds, d ≠ .lst ds) (n1 : ∀ ds, d ≠ .dK ds) (n2 : ∀ ds, d ≠ .dT ds) : Rp K S x d := by
  cases o with
  | st d' => cases r; exact h.st
  | ol os => simp only [OD.rd, Option.map_eq_some_iff] at r; obtain ⟨_, _, h2⟩ := r; exact absurd h2.symm (n _)
  | oK os => simp only [OD.rd, Option.map_eq_some_iff] at r; obtain ⟨_, _, h2⟩ := r; exact absurd h2.symm (n1 _)
  | oT os => simp only [OD.rd, Option.map_eq_some_iff] at r; obtain ⟨_, _, h2⟩ := r; exact absurd h2.symm (n2 _)
  | oi _ _ => cases r
  | cell _ _ => cases r
theorem At.tup {ds : List D} (h : At K S H x o) (e : Ex S H) (r : o.rd = some (.tup ds)) : ∃ a vs, x = .ref a ∧ S a = some (.tup vs) ∧ vs.length = ds.length ∧ RpI K S (vs.zip ds) := by
  cases h.plain r (by simp) (by simp) (by simp) with
  | tup a b c _ => exact ⟨_, _, rfl, a, b, c⟩
/-! ### new things -/
theorem Own.newS {p : Addr} {vs : List V} {ds : List D} (h : Own K S H [] L) (r : RpI K S (vs.zip ds)) (hl : vs.length = ds.length) (n : H p = none) : Own K S (upd H p (.lst vs)) [] ((.ref p, .ol (ds.map .st)) :: L) := by
  obtain ⟨e, fp, w, nd, sn, _⟩ := h
  have h1 : Own K S H [p] (vs.zip (ds.map .st) ++ L) := ⟨e, fp, by simpa using (owi_st r).append w, nd, sn, fun q hq => by
    have z : q = p := by simpa using hq
    subst z
    refine ⟨fun hm => ?_, ex_none e n⟩
    obtain ⟨u, hu⟩ := w.there q hm
    rw [n] at hu; cases hu⟩
  exact h1.close (by simpa using hl) (by simp)
theorem Own.newL {p : Addr} {vs : List V} {os : List OD} (h : Own K S H [] (vs.zip os ++ L)) (hl : vs.length = os.length) (n : H p = none) : Own K S (upd H p (.lst vs)) [] ((.ref p, .ol os) :: L) := by
  obtain ⟨e, fp, w, nd, sn, _⟩ := h
  have h1 : Own K S H [p] (vs.zip os ++ L) := ⟨e, fp, w, nd, sn, fun q hq => by
    have z : q = p := by simpa using hq
    subst z
    refine ⟨fun hm => ?_, ex_none e n⟩
    obtain ⟨u, hu⟩ := w.there q hm
    rw [n] at hu; cases hu⟩
  exact h1.close hl (by simp)
theorem Own.newT {p : Addr} {vs : List V} {ds : List D} (h : Own K S H [] L) (r : RpI K S (vs.zip ds)) (hl : vs.length = ds.length) (n : H p = none) : Ex S (upd S p (.tup vs)) ∧ Own K (upd S p (.tup vs)) (upd H p (.tup vs)) [] ((.ref p, .st (.tup ds)) :: L) := by
  have e : Ex S (upd S p (.tup vs)) := ex_new (ex_none h.le n)
  exact ⟨e, (h.stable n).push (.tup upd_same hl (r.mono e) .nil)⟩

/-! ### operations, each told by its outcome on trees -/
def gII (g : Int → Int → Option D) : OD → OD → Option OD
  | .st (.int i), .st (.int j) => (g i j).map .st
  | _, _ => none
def gSS (g : Str → Str → Option D) : OD → OD → Option OD
  | .st (.str i), .st (.str j) => (g i j).map .st
  | _, _ => none
def gI (g : Int → Option D) : OD → Option OD
  | .st (.int i) => (g i).map .st
  | _ => none
def gOr2 (g1 g2 : OD → OD → Option OD) : OD → OD → Option OD := fun a b => match g1 a b with
  | some z => some z
  | none => g2 a b
def gOr1 (g1 g2 : OD → Option OD) : OD → Option OD := fun a => match g1 a with
  | some z => some z
  | none => g2 a
theorem RG2.or {r1 r2 : R2} {g1 g2 : OD → OD → Option OD} (h1 : RG2 K r1 g1) (h2 : RG2 K r2 g2) : RG2 K (fun x y H Q => r1 x y H Q ∨ r2 x y H Q) (gOr2 g1 g2) := by
  intro S H L x y ox oy oz Q w e k
  unfold gOr2 at e
  cases q : g1 ox oy with
  | some z => rw [q] at e; cases e; exact .inl (h1 S H L x y ox oy oz Q w q k)
  | none => rw [q] at e; exact .inr (h2 S H L x y ox oy oz Q w e k)
theorem RG1.or {r1 r2 : V → Hp → VK → Prop} {g1 g2 : OD → Option OD} (h1 : RG1 K r1 g1) (h2 : RG1 K r2 g2) : RG1 K (fun x H Q => r1 x H Q ∨ r2 x H Q) (gOr1 g1 g2) := by
  intro S H L x ox oz Q w e k
  unfold gOr1 at e
  cases q : g1 ox with
  | some z => rw [q] at e; cases e; exact .inl (h1 S H L x ox oz Q w q k)
  | none => rw [q] at e; exact .inr (h2 S H L x ox oz Q w e k)
theorem OpR.or {X : Cx} {f : Value → Value → Sem Value} {r1 r2 : R2} (h1 : OpR X f r1) (h2 : OpR X f r2) : OpR X f (fun x y H Q => r1 x y H Q ∨ r2 x y H Q) := fun pins s σ H x y v u Q I rx ry h => by
  rcases h with h | h
  · exact h1 pins s σ H x y v u Q I rx ry h
  · exact h2 pins s σ H x y v u Q I rx ry h
theorem CallR.or {X : Cx} {f : Value} {r1 r2 : List V → Hp → VK → Prop} (h1 : CallR X f r1) (h2 : CallR X f r2) : CallR X f (fun xs H Q => r1 xs H Q ∨ r2 xs H Q) := fun pins s σ H xs us Q I r h => by
  rcases h with h | h
  · exact h1 pins s σ H xs us Q I r h
  · exact h2 pins s σ H xs us Q I r h
/-- the outcome is a plain thing -/
def Pl (K : PySem.W.Frag) (v : V) (d : D) : Prop := ∀ S, Rp K S v d
theorem pl_int {i : Int} : Pl K (.int i) (.int i) := fun _ => .int .nil
theorem pl_bl {i : Bool} : Pl K (.bl i) (.bl i) := fun _ => .bl .nil
theorem pl_str {i : Str} : Pl K (.str i) (.str i) := fun _ => .str .nil
theorem rg_ii {r : R2} {g : Int → Int → Option D} (h : ∀ i j d, g i j = some d → ∃ v, Pl K v d ∧ ∀ H Q, Q v H → r (.int i) (.int j) H Q) : RG2 K r (gII g) := by
  intro S H L x y ox oy oz Q w e k
  unfold gII at e
  split at e
  · rename_i i j
    obtain ⟨d, hd, rfl⟩ := Option.map_eq_some_iff.mp e
    obtain ⟨v, pv, q⟩ := h i j d hd
    cases w.at1.st
    cases w.at0.st
    exact q H Q (k v S H (ex_refl S) (w.push (pv S)))
  · cases e
theorem rg_ss {r : R2} {g : Str → Str → Option D} (h : ∀ i j d, g i j = some d → ∃ v, Pl K v d ∧ ∀ H Q, Q v H → r (.str i) (.str j) H Q) : RG2 K r (gSS g) := by
  intro S H L x y ox oy oz Q w e k
  unfold gSS at e
  split at e
  · rename_i i j
    obtain ⟨d, hd, rfl⟩ := Option.map_eq_some_iff.mp e
    obtain ⟨v, pv, q⟩ := h i j d hd
    cases w.at1.st
    cases w.at0.st
    exact q H Q (k v S H (ex_refl S) (w.push (pv S)))
  · cases e
theorem rg_i {r : V → Hp → VK → Prop} {g : Int → Option D} (h : ∀ i d, g i = some d → ∃ v, Pl K v d ∧ ∀ H Q, Q v H → r (.int i) H Q) : RG1 K r (gI g) := by
  intro S H L x ox oz Q w e k
  unfold gI at e
  split at e
  · rename_i i
    obtain ⟨d, hd, rfl⟩ := Option.map_eq_some_iff.mp e
    obtain ⟨v, pv, q⟩ := h i d hd
    cases w.at0.st
    exact q H Q (k v S H (ex_refl S) (w.push (pv S)))
  · cases e
end
end Qy
set_option Elab.async false
set_option linter.all false
set_option maxRecDepth 100000
set_option maxHeartbeats 2000000
namespace Qy
open PySem PySem.Spec PyProof.Rows L2
section
variable {X : Cx} {pin : List (Option V)} {K : PySem.W.Frag} {e a b : Expr} {t ta tb : TE} {f : Fe} {oa ob : Fo} {pos p : Pos}
def big : Nat := 1000000
theorem big_le {n : Nat} (h : n ≤ big) : n ≤ sizeLine := Nat.le_trans h (by decide)
theorem big_lt {n : Nat} (h : n ≤ big) : n < sizeLine := Nat.lt_of_le_of_lt h (by decide)

/-! ### arithmetic -/
def gAddI := gII fun i j => some (.int (i + j))
def gSubI := gII fun i j => some (.int (i - j))
def gMulI := gII fun i j => if ((-(2 ^ 64) < i ∧ i < 2 ^ 64) ∨ (-(2 ^ 64) < j ∧ j < 2 ^ 64)) then some (.int (i * j)) else none
def gDiv := gII fun i j => if 0 < j ∧ j < 1073741824 then some (.int (i / j)) else none
def gMod := gII fun i j => if 0 < j then some (.int (i % j)) else none
def gPow := gII fun i j => if 0 ≤ j ∧ j ≤ 1000000 ∧ i.natAbs < 2 ^ 64 then some (.int (i ^ j.toNat)) else none
def gNeg := gI fun i => some (.int (-i))
theorem rg_add : RG2 K (rI0 fun i j => .int (i + j)) gAddI := rg_ii fun i j d h => by cases h; exact ⟨_, pl_int, fun H Q q => ⟨i, j, rfl, rfl, q⟩⟩
theorem rg_sub : RG2 K (rI0 fun i j => .int (i - j)) gSubI := rg_ii fun i j d h => by cases h; exact ⟨_, pl_int, fun H Q q => ⟨i, j, rfl, rfl, q⟩⟩
theorem rg_mul : RG2 K (rI CMul fun i j => .int (i * j)) gMulI := rg_ii fun i j d h => by
  split at h
  · rename_i c; cases h; exact ⟨_, pl_int, fun H Q q => ⟨i, j, rfl, rfl, c, q⟩⟩
  · cases h
theorem rg_div : RG2 K (rI CDiv fun i j => .int (i / j)) gDiv := rg_ii fun i j d h => by
  split at h
  · rename_i c; cases h; exact ⟨_, pl_int, fun H Q q => ⟨i, j, rfl, rfl, c, q⟩⟩
  · cases h
theorem rg_mod : RG2 K (rI (fun _ j => 0 < j) fun i j => .int (i % j)) gMod := rg_ii fun i j d h => by
  split at h
  · rename_i c; cases h; exact ⟨_, pl_int, fun H Q q => ⟨i, j, rfl, rfl, c, q⟩⟩
  · cases h
theorem rg_pow : RG2 K (rI CPow fun i j => .int (i ^ j.toNat)) gPow := rg_ii fun i j d h => by
  split at h
  · rename_i c; cases h; exact ⟨_, pl_int, fun H Q q => ⟨i, j, rfl, rfl, c, q⟩⟩
  · cases h
theorem rg_neg : RG1 K (rU fun i => .int (-i)) gNeg := rg_i fun i d h => by cases h; exact ⟨_, pl_int, fun H Q q => ⟨i, rfl, q⟩⟩
def gAddS := gSS fun i j => if i.length + j.length ≤ big then some (.str (i ++ j)) else none
theorem rg_addS : RG2 K (fun x y H Q => ∃ i j, x = .str i ∧ y = .str j ∧ i.length + j.length ≤ sizeLine ∧ Q (.str (i ++ j)) H) gAddS := rg_ss fun i j d h => by
  split at h
  · rename_i c; cases h; exact ⟨_, pl_str, fun H Q q => ⟨i, j, rfl, rfl, big_le c, q⟩⟩
  · cases h
/-- lists joined: a new one -/
def gCat : OD → OD → Option OD := fun a b => match a.rd, b.rd with
  | some (.lst xs), some (.lst ys) => if xs.length + ys.length ≤ big then some (.ol ((xs ++ ys).map .st)) else none
  | _, _ => none
theorem zip_app {α β : Type} : ∀ {a c : List α} {b d : List β}, a.length = b.length → (a ++ c).zip (b ++ d) = a.zip b ++ c.zip d
  | [], _, [], _, _ => rfl
  | x :: a, c, y :: b, d, h => by simp [zip_app (a := a) (b := b) (c := c) (d := d) (by simpa using h)]
theorem rg_cat : RG2 K rCat gCat := by
  intro S H L x y ox oy oz Q w e k
  unfold gCat at e
  split at e
  · rename_i xs ys hx hy
    split at e
    · rename_i c
      cases e
      obtain ⟨a, vs, rfl, ha, la, ra⟩ := w.at1.lst w.le hx
      obtain ⟨b, us, rfl, hb, lb, rb⟩ := w.at0.lst w.le hy
      refine ⟨a, b, vs, us, rfl, rfl, ha, hb, big_le (by omega), fun p hp => k _ S _ (ex_refl S) ?_⟩
      refine Own.newS w ?_ (by simp [la, lb]) hp
      rw [zip_app la]
      exact ra.append rb
    · cases e
  · cases e
def gAdd := gOr2 gAddI (gOr2 gAddS gCat)
theorem so_op {op : Operator} {r : R2} {g : OD → OD → Option OD} (ho : OpR X (binaryOp op) r) (hr : RG2 X.K r g) (ha : SO X pin a ta oa) (hb : SO X pin b tb ob) : SE X pin (.BinOp a op b pos) (tOp r ta tb) (fBin g oa ob) := ⟨pe_op ho ha.pe hb.pe, re_bin ha.rd hb.rd hr⟩
theorem so_un {op : UnaryOp} {r : V → Hp → VK → Prop} {g : OD → Option OD} (ho : UnR X (unaryOp op) r) (hr : RG1 X.K r g) (ha : SO X pin a ta oa) : SE X pin (.UnaryOp op a pos) (tUn r ta) (fUn g oa) := ⟨pe_un ho ha.pe, re_un ha.rd hr⟩
def rAddQ : R2 := fun x y H Q => rI0 (fun i j => .int (i + j)) x y H Q ∨ ((∃ i j, x = .str i ∧ y = .str j ∧ i.length + j.length ≤ sizeLine ∧ Q (.str (i ++ j)) H) ∨ rCat x y H Q)
theorem op_addQ : OpR X (binaryOp .Add) rAddQ := OpR.or op_add (OpR.or op_add_str op_cat)
theorem rg_addQ : RG2 K rAddQ gAdd := rg_add.or (rg_addS.or rg_cat)
/-- a list again and again -/
def gRep : OD → OD → Option OD := fun a b => match a.rd, b.rd with
  | some (.lst xs), some (.int k) => if 0 ≤ k ∧ k ≤ 1000000 ∧ xs.length * k.toNat ≤ big then some (.ol ((List.replicate k.toNat xs).flatten.map .st)) else none
  | _, _ => none
def gMul := gMulI

/-! ### order -/
def gLtI := gII fun i j => some (.bl (decide (i < j)))
def gLe := gII fun i j => some (.bl (decide (i ≤ j)))
def gGt := gII fun i j => some (.bl (decide (j < i)))
def gGe := gII fun i j => some (.bl (decide (j ≤ i)))
theorem rg_lt : RG2 K (rI0 fun i j => .bl (decide (i < j))) gLtI := rg_ii fun i j d h => by cases h; exact ⟨_, pl_bl, fun H Q q => ⟨i, j, rfl, rfl, q⟩⟩
theorem rg_le : RG2 K (rI0 fun i j => .bl (decide (i ≤ j))) gLe := rg_ii fun i j d h => by cases h; exact ⟨_, pl_bl, fun H Q q => ⟨i, j, rfl, rfl, q⟩⟩
theorem rg_gt : RG2 K (rI0 fun i j => .bl (decide (j < i))) gGt := rg_ii fun i j d h => by cases h; exact ⟨_, pl_bl, fun H Q q => ⟨i, j, rfl, rfl, q⟩⟩
theorem rg_ge : RG2 K (rI0 fun i j => .bl (decide (j ≤ i))) gGe := rg_ii fun i j d h => by cases h; exact ⟨_, pl_bl, fun H Q q => ⟨i, j, rfl, rfl, q⟩⟩
def gLtS := gSS fun i j => some (.bl (decide (i.cps.toList < j.cps.toList)))
theorem rg_ltS : RG2 K (fun x y H Q => ∃ i j, x = .str i ∧ y = .str j ∧ Q (.bl (decide (i.cps.toList < j.cps.toList))) H) gLtS := rg_ss fun i j d h => by cases h; exact ⟨_, pl_bl, fun H Q q => ⟨i, j, rfl, rfl, q⟩⟩
/-- intsOf out of data -/
def intsOf : List D → Option (List Int)
  | [] => some []
  | .int i :: r => (intsOf r).map (i :: ·)
  | _ :: _ => none
theorem ints_eq : ∀ {ds : List D} {ns : List Int}, intsOf ds = some ns → ds = ns.map .int
  | [], ns, h => by cases h; rfl
  | .int i :: r, ns, h => by
    simp only [intsOf, Option.map_eq_some_iff] at h
    obtain ⟨e, h1, rfl⟩ := h
    rw [ints_eq h1]; rfl
  | .non :: _, _, h | .bl _ :: _, _, h | .str _ :: _, _, h | .lst _ :: _, _, h | .tup _ :: _, _, h | .dK _ :: _, _, h | .dT _ :: _, _, h | .ins _ _ :: _, _, h | .raw _ :: _, _, h | .scr _ :: _, _, h | .kt _ :: _, _, h => by cases h
theorem ints_map : ∀ ns : List Int, intsOf (ns.map .int) = some ns
  | [] => rfl
  | n :: r => by simp [intsOf, ints_map r]
theorem rp_ints {S : Hp} : ∀ {vs : List V} {ns : List Int}, vs.length = ns.length → RpI K S (vs.zip (ns.map .int)) → vs = ns.map V.int
  | [], [], _, _ => rfl
  | [], _ :: _, h, _ => by cases h
  | _ :: _, [], h, _ => by cases h
  | v :: vs, n :: ns, h, r => by
    simp only [List.map_cons, List.zip_cons_cons] at r
    have := rp_ints (by simpa using h) r.tail
    subst this
    cases r.head
    rfl
def gLtT : OD → OD → Option OD := fun a b => match a.rd, b.rd with
  | some (.tup xs), some (.tup ys) => (match intsOf xs, intsOf ys with
    | some ns, some ms => some (.st (.bl (HT.lexLt ns ms)))
    | _, _ => none)
  | _, _ => none
theorem rg_ltT : RG2 K (rLtT K) gLtT := by
  intro S H L x y ox oy oz Q w e k
  unfold gLtT at e
  split at e
  · rename_i xs ys hx hy
    split at e
    · rename_i ns ms h1 h2
      cases e
      obtain ⟨a, vs, rfl, ha, la, ra⟩ := w.at1.tup w.le hx
      obtain ⟨b, us, rfl, hb, lb, rb⟩ := w.at0.tup w.le hy
      rw [ints_eq h1] at la ra
      rw [ints_eq h2] at lb rb
      have e1 := rp_ints (by simpa using la) ra
      have e2 := rp_ints (by simpa using lb) rb
      subst e1
      subst e2
      exact ⟨a, b, ns, ms, rfl, rfl, SqT.of (w.le _ _ ha), SqT.of (w.le _ _ hb), k _ S H (ex_refl S) (w.push (.bl .nil))⟩
    · cases e
  · cases e
def gLt := gOr2 gLtI (gOr2 gLtS gLtT)
theorem so_cmp {op : CmpOp} {r : R2} {g : OD → OD → Option OD} (ho : OpR X (compareOp op) r) (hr : RG2 X.K r g) (ha : SO X pin a ta oa) (hb : SO X pin b tb ob) (hm : behindInMarks op b = false) : SE X pin (.Compare a [op] [b] pos) (tOp r ta tb) (fBin g oa ob) :=
  ⟨pe_cmpR ho ha.pe hb.pe hm, re_bin ha.rd hb.rd hr⟩
/-- a bool told by an expression -/
def fB (f : Fe) : Ft := fun ρ => match f ρ with
  | some (.st (.bl b), ρ') => some (b, ρ')
  | _ => none
theorem rt_B (h : RE K pin t f) : RT K pin (tB t) (fB f) := by
  intro S H T ρ σ F Q b ρ' w e k
  unfold fB at e
  split at e
  · rename_i c ρ1 q
    cases e
    refine h S H T ρ σ F _ _ _ w q fun v S' H' x w' => ?_
    cases w'.known
    exact ⟨b, rfl, k S' H' x w'.tl⟩
  · cases e
theorem st_cmp {op : CmpOp} {r : R2} {g : OD → OD → Option OD} (ho : OpR X (compareOp op) r) (hr : RG2 X.K r g) (ha : SO X pin a ta oa) (hb : SO X pin b tb ob) (hm : behindInMarks op b = false) : STs X pin (.Compare a [op] [b] pos) (tTest (tOp r ta tb)) (fB (fBin g oa ob)) :=
  ⟨pt_cmpR ho ha.pe hb.pe hm, rt_B (re_bin ha.rd hb.rd hr)⟩
theorem st_val (h : SE X pin e t f) (he : ∀ whole, isTrue e X.env whole = (do let v ← whole; standAt e.pos; holding [v] (truthy v)) := by intro _; rfl) : STs X pin e (tB t) (fB f) := ⟨pt_val h.pe he, rt_B h.rd⟩
/-! ### and, or, not, if -/
variable {tA tB' : TT} {fa fb : Ft} {rest : List Expr}
def fNot (f : Ft) : Ft := fun ρ => match f ρ with
  | some (b, ρ') => some (!b, ρ')
  | none => none
def fAnd (f g : Ft) : Ft := fun ρ => match f ρ with
  | some (true, ρ') => g ρ'
  | some (false, ρ') => some (false, ρ')
  | none => none
def fOr (f g : Ft) : Ft := fun ρ => match f ρ with
  | some (true, ρ') => some (true, ρ')
  | some (false, ρ') => g ρ'
  | none => none
theorem rt_not (h : RT K pin tA fa) : RT K pin (tNot tA) (fNot fa) := by
  intro S H T ρ σ F Q b ρ' w e k
  unfold fNot at e
  split at e
  · rename_i c ρ1 q; cases e; exact h S H T ρ σ F _ _ _ w q k
  · cases e
theorem rt_and (h : RT K pin tA fa) (h2 : RT K pin tB' fb) : RT K pin (tAnd tA tB') (fAnd fa fb) := by
  intro S H T ρ σ F Q b ρ' w e k
  unfold fAnd at e
  split at e
  · rename_i ρ1 q
    refine h S H T ρ σ F _ _ _ w q fun S' H' x w' => ?_
    show tB' σ H' Q
    exact h2 S' H' T ρ1 σ F _ _ _ w' e fun S2 H2 x2 w2 => k S2 H2 (ex_trans x x2) w2
  · rename_i ρ1 q
    cases e
    exact h S H T ρ σ F _ _ _ w q fun S' H' x w' => k S' H' x w'
  · cases e
theorem rt_or (h : RT K pin tA fa) (h2 : RT K pin tB' fb) : RT K pin (tOr tA tB') (fOr fa fb) := by
  intro S H T ρ σ F Q b ρ' w e k
  unfold fOr at e
  split at e
  · rename_i ρ1 q
    cases e
    exact h S H T ρ σ F _ _ _ w q fun S' H' x w' => k S' H' x w'
  · rename_i ρ1 q
    refine h S H T ρ σ F _ _ _ w q fun S' H' x w' => ?_
    show tB' σ H' Q
    exact h2 S' H' T ρ1 σ F _ _ _ w' e fun S2 H2 x2 w2 => k S2 H2 (ex_trans x x2) w2
  · cases e
structure SW (X : Cx) (pin : List (Option V)) (e : Expr) (t : TT) (f : Ft) : Prop where
  pe : PW X e t
  rd : RT X.K pin t f
theorem SW.st (h : SW X pin e tA fa) : STs X pin e tA fa := ⟨h.pe.pt, h.rd⟩
theorem st_not (h : STs X pin a tA fa) : STs X pin (.UnaryOp .Not a pos) (tNot tA) (fNot fa) := ⟨pt_not h.pe, rt_not h.rd⟩
theorem sw_and1 (h : STs X pin a tA fa) : SW X pin (.BoolOp .And [a] pos) tA fa := ⟨pw_and1 h.pe, h.rd⟩
theorem sw_or1 (h : STs X pin a tA fa) : SW X pin (.BoolOp .Or [a] pos) tA fa := ⟨pw_or1 h.pe, h.rd⟩
theorem sw_and (h : STs X pin a tA fa) (h2 : SW X pin (.BoolOp .And (b :: rest) pos) tB' fb) : SW X pin (.BoolOp .And (a :: b :: rest) pos) (tAnd tA tB') (fAnd fa fb) := ⟨pw_and h.pe h2.pe, rt_and h.rd h2.rd⟩
theorem sw_or (h : STs X pin a tA fa) (h2 : SW X pin (.BoolOp .Or (b :: rest) pos) tB' fb) : SW X pin (.BoolOp .Or (a :: b :: rest) pos) (tOr tA tB') (fOr fa fb) := ⟨pw_or h.pe h2.pe, rt_or h.rd h2.rd⟩
/-- as values (bools) -/
def fAndV (f g : Fe) : Fe := fun ρ => match f ρ with
  | some (.st (.bl true), ρ') => g ρ'
  | some (.st (.bl false), ρ') => some (.st (.bl false), ρ')
  | _ => none
def fOrV (f g : Fe) : Fe := fun ρ => match f ρ with
  | some (.st (.bl true), ρ') => some (.st (.bl true), ρ')
  | some (.st (.bl false), ρ') => g ρ'
  | _ => none
def gNotV : OD → Option OD
  | .st (.bl b) => some (.st (.bl (!b)))
  | _ => none
variable {f1 f2 : Fe}
theorem re_andV (h : RE K pin ta f1) (h2 : RE K pin tb f2) : RE K pin (tAndV ta tb) (fAndV f1 f2) := by
  intro S H T ρ σ F Q b ρ' w e k
  unfold fAndV at e
  split at e
  · rename_i ρ1 q
    refine h S H T ρ σ F _ _ _ w q fun v S' H' x w' => ?_
    cases w'.known
    refine ⟨true, rfl, ?_⟩
    show tb σ H' Q
    exact h2 S' H' T ρ1 σ F _ _ _ w'.tl e fun v S2 H2 x2 w2 => k v S2 H2 (ex_trans x x2) w2
  · rename_i ρ1 q
    cases e
    refine h S H T ρ σ F _ _ _ w q fun v S' H' x w' => ?_
    cases w'.known
    exact ⟨false, rfl, k _ S' H' x w'⟩
  · cases e
theorem re_orV (h : RE K pin ta f1) (h2 : RE K pin tb f2) : RE K pin (tOrV ta tb) (fOrV f1 f2) := by
  intro S H T ρ σ F Q b ρ' w e k
  unfold fOrV at e
  split at e
  · rename_i ρ1 q
    cases e
    refine h S H T ρ σ F _ _ _ w q fun v S' H' x w' => ?_
    cases w'.known
    exact ⟨true, rfl, k _ S' H' x w'⟩
  · rename_i ρ1 q
    refine h S H T ρ σ F _ _ _ w q fun v S' H' x w' => ?_
    cases w'.known
    refine ⟨false, rfl, ?_⟩
    show tb σ H' Q
    exact h2 S' H' T ρ1 σ F _ _ _ w'.tl e fun v S2 H2 x2 w2 => k v S2 H2 (ex_trans x x2) w2
  · cases e
theorem re_notV {a : Fo} (h : RO K pin ta a) : RE K pin (tNotV ta) (fUn gNotV a) := by
  refine re_un (r := fun x H Q => ∃ c, x = .bl c ∧ Q (.bl (!c)) H) h ?_
  intro S H L x ox oz Q w e k
  unfold gNotV at e
  split at e
  · cases e
    cases w.at0.st
    exact ⟨_, rfl, k _ S H (ex_refl S) (w.push (.bl .nil))⟩
  · cases e
theorem se_one {op} (h : SE X pin a ta f1) : SE X pin (.BoolOp op [a] pos) ta f1 := ⟨pe_one h.pe, h.rd⟩
theorem se_and (h : SE X pin a ta f1) (h2 : SE X pin (.BoolOp .And (b :: rest) pos) tb f2) : SE X pin (.BoolOp .And (a :: b :: rest) pos) (tAndV ta tb) (fAndV f1 f2) := ⟨pe_and h.pe h2.pe, re_andV h.rd h2.rd⟩
theorem se_or (h : SE X pin a ta f1) (h2 : SE X pin (.BoolOp .Or (b :: rest) pos) tb f2) : SE X pin (.BoolOp .Or (a :: b :: rest) pos) (tOrV ta tb) (fOrV f1 f2) := ⟨pe_or h.pe h2.pe, re_orV h.rd h2.rd⟩
theorem so_not (h : SO X pin a ta oa) : SE X pin (.UnaryOp .Not a pos) (tNotV ta) (fUn gNotV oa) := ⟨pe_not h.pe, re_notV h.rd⟩
def fIf (c : Ft) (f g : Fe) : Fe := fun ρ => match c ρ with
  | some (true, ρ') => f ρ'
  | some (false, ρ') => g ρ'
  | none => none
theorem re_if (h : RT K pin tA fa) (h1 : RE K pin ta f1) (h2 : RE K pin tb f2) : RE K pin (tIf tA ta tb) (fIf fa f1 f2) := by
  intro S H T ρ σ F Q b ρ' w e k
  unfold fIf at e
  split at e
  · rename_i ρ1 q
    refine h S H T ρ σ F _ _ _ w q fun S' H' x w' => ?_
    show ta σ H' Q
    exact h1 S' H' T ρ1 σ F _ _ _ w' e fun v S2 H2 x2 w2 => k v S2 H2 (ex_trans x x2) w2
  · rename_i ρ1 q
    refine h S H T ρ σ F _ _ _ w q fun S' H' x w' => ?_
    show tb σ H' Q
    exact h2 S' H' T ρ1 σ F _ _ _ w' e fun v S2 H2 x2 w2 => k v S2 H2 (ex_trans x x2) w2
  · cases e
theorem se_if {c : Expr} (h : STs X pin c tA fa) (h1 : SE X pin a ta f1) (h2 : SE X pin b tb f2) : SE X pin (.IfExp c a b pos) (tIf tA ta tb) (fIf fa f1 f2) := ⟨pe_ifExp h.pe h1.pe h2.pe, re_if h.rd h1.rd h2.rd⟩
end
end Qy
set_option Elab.async false
set_option linter.all false
set_option maxRecDepth 100000
set_option maxHeartbeats 400000
namespace Qy
open PySem PySem.Spec PyProof.Rows L2
section
variable {X : Cx} {pin : List (Option V)} {K : PySem.W.Frag} {e a b : Expr} {t ta tb : TE} {f : Fe} {oa ob : Fo} {pos p : Pos} {st : Stmt} {rest : List Stmt} {ts us : TS} {fs gs : Fs} {tA : TT} {fa : Ft}
/-! ### blocks -/
def fNext : Fs := fun ρ => some (.nx ρ)
def fStuck : Fs := fun _ => none
def fSeq (f g : Fs) : Fs := fun ρ => match f ρ with
  | some (.nx ρ') => g ρ'
  | o => o
theorem rs_next : RS K pin tNext fNext := by
  intro S H ρ σ F E o w e k
  cases e
  exact k S H σ (ex_refl S) w
theorem rs_stuck : RS K pin ts fStuck := by
  intro S H ρ σ F E o w e k
  cases e
theorem rs_seq (h1 : RS K pin ts fs) (h2 : RS K pin us gs) : RS K pin (tSeq ts us) (fSeq fs gs) := by
  intro S H ρ σ F E o w e k
  unfold fSeq at e
  split at e
  · rename_i ρ1 q
    exact h1 S H ρ σ F _ _ w q fun S' H' σ' x w' => h2 S' H' ρ1 σ' F E o w' e (k.le x)
  · rename_i q
    refine h1 S H ρ σ F _ _ w e ?_
    cases o with
    | nx ρ1 => exact absurd e (q ρ1)
    | bk ρ1 => exact k
    | ct ρ1 => exact k
    | rt u ρ1 => exact k
theorem sb_nil : SB X pin [] tNext fNext := ⟨pss_nil, rs_next⟩
theorem sb_one (h : SS X pin st ts fs) : SB X pin [st] ts fs := ⟨pss_one h.pe, h.rd⟩
theorem sb_cons (h : SS X pin st ts fs) (h2 : SB X pin rest us gs) : SB X pin (st :: rest) (tSeq ts us) (fSeq fs gs) := ⟨pss_cons h.pe h2.pe, rs_seq h.rd h2.rd⟩
theorem ss_pass : SS X pin (.Pass pos) tNext fNext := ⟨ps_pass, rs_next⟩
theorem ss_never : SS X pin st tNever fStuck := ⟨ps_never, rs_stuck⟩
theorem ss_break : SS X pin (.Break pos) tBreak (fun ρ => some (.bk ρ)) := ⟨ps_break, by
  intro S H ρ σ F E o w e k
  cases e
  exact k S H σ (ex_refl S) w⟩
theorem ss_continue : SS X pin (.Continue pos) tCont (fun ρ => some (.ct ρ)) := ⟨ps_continue, by
  intro S H ρ σ F E o w e k
  cases e
  exact k S H σ (ex_refl S) w⟩
def fX (f : Fe) : Fs := fun ρ => match f ρ with
  | some (_, ρ') => some (.nx ρ')
  | none => none
theorem ss_expr (h : SE X pin e t f) (hs : swapsWith e none pos.line X.env = pure false := by rfl) : SS X pin (.Expr e pos) (tDrop t) (fX f) := ⟨ps_expr h.pe hs, by
  intro S H ρ σ F E o w q k
  unfold fX at q
  split at q
  · rename_i u ρ1 q1
    cases q
    exact h.rd S H [] ρ σ F _ _ _ w q1 fun v S' H' x w' => k S' H' σ x w'.tl
  · cases q⟩
def fRet (f : Fe) : Fs := fun ρ => match f ρ with
  | some (o, ρ') => some (.rt o ρ')
  | none => none
theorem ss_ret (h : SE X pin e t f) : SS X pin (.Return (some e) pos) (tRet t) (fRet f) := ⟨ps_ret h.pe, by
  intro S H ρ σ F E o w q k
  unfold fRet at q
  split at q
  · rename_i u ρ1 q1
    cases q
    exact h.rd S H [] ρ σ F _ _ _ w q1 fun v S' H' x w' => k v S' H' σ x w'
  · cases q⟩
def fIfS (c : Ft) (f g : Fs) : Fs := fun ρ => match c ρ with
  | some (true, ρ') => f ρ'
  | some (false, ρ') => g ρ'
  | none => none
theorem rs_if (h : RT K pin tA fa) (h1 : RS K pin ts fs) (h2 : RS K pin us gs) : RS K pin (tIfS tA ts us) (fIfS fa fs gs) := by
  intro S H ρ σ F E o w e k
  unfold fIfS at e
  split at e
  · rename_i ρ1 q
    refine h S H [] ρ σ F _ _ _ w q fun S' H' x w' => ?_
    show ts E σ H'
    exact h1 S' H' ρ1 σ F E o w' e (k.le x)
  · rename_i ρ1 q
    refine h S H [] ρ σ F _ _ _ w q fun S' H' x w' => ?_
    show us E σ H'
    exact h2 S' H' ρ1 σ F E o w' e (k.le x)
  · cases e
theorem ss_if {c : Expr} {A B : List Stmt} (h : STs X pin c tA fa) (h1 : SB X pin A ts fs) (h2 : SB X pin B us gs) : SS X pin (.If c A B pos) (tIfS tA ts us) (fIfS fa fs gs) := ⟨ps_if h.pe h1.pe h2.pe, rs_if h.rd h1.rd h2.rd⟩

/-! ### targets -/
abbrev Fg := OD → Rho → Option Rho
def NoPin (pin : List (Option V)) (i : Nat) : Prop := pin[i]? = none ∨ pin[i]? = some none
def Only (sl : List Nat) (σ σ' : L2.St) : Prop := σ'.length = σ.length ∧ ∀ i, i ∉ sl → σ'[i]? = σ[i]?
theorem Only.refl (σ : L2.St) : Only [] σ σ := ⟨rfl, fun _ _ => rfl⟩
theorem Only.trans {a b : List Nat} {σ1 σ2 σ3 : L2.St} (h : Only a σ1 σ2) (h2 : Only b σ2 σ3) : Only (a ++ b) σ1 σ3 := ⟨h2.1.trans h.1, fun i hi => (h2.2 i fun z => hi (List.mem_append_right _ z)).trans (h.2 i fun z => hi (List.mem_append_left _ z))⟩
def RG (K : PySem.W.Frag) (pin : List (Option V)) (sl : List Nat) (g : TG) (fg : Fg) : Prop := ∀ S H T ρ σ F v o Q ρ', Sat K pin S H ((v, o) :: T) ρ σ F → fg o ρ = some ρ' →
  (∀ S' H' σ', Ex S S' → Only sl σ σ' → Sat K pin S' H' T ρ' σ' F → Q σ' H') → g v σ H Q
def gN (i : Nat) : Fg := fun o ρ => if i < ρ.length then some (ρ.set i (some o)) else none
theorem rgt_name {i : Nat} (hp : NoPin pin i) : RG K pin [i] (gName i) (gN i) := by
  intro S H T ρ σ F v o Q ρ' w e k
  unfold gN at e
  split at e
  · rename_i hi
    cases e
    exact k S H _ (ex_refl S) ⟨by simp, fun j hj => List.getElem?_set_ne fun z => hj (by simp [z])⟩ (w.asg hi hp)
  · cases e
def RGs (K : PySem.W.Frag) (pin : List (Option V)) (sl : List Nat) (g : TGs) (fg : List OD → Rho → Option Rho) : Prop := ∀ S H T ρ σ F vs os Q ρ', vs.length = os.length → Sat K pin S H (vs.zip os ++ T) ρ σ F → fg os ρ = some ρ' →
  (∀ S' H' σ', Ex S S' → Only sl σ σ' → Sat K pin S' H' T ρ' σ' F → Q σ' H') → g vs σ H Q
def gsNil : List OD → Rho → Option Rho
  | [], ρ => some ρ
  | _, _ => none
def gsCons (g : Fg) (r : List OD → Rho → Option Rho) : List OD → Rho → Option Rho
  | o :: os, ρ => (match g o ρ with
    | some ρ1 => r os ρ1
    | none => none)
  | [], _ => none
theorem rgs_nil : RGs K pin [] gNil gsNil := by
  intro S H T ρ σ F vs os Q ρ' hl w e k
  cases os with
  | nil =>
    cases vs with
    | nil => cases e; exact ⟨rfl, k S H σ (ex_refl S) (Only.refl σ) w⟩
    | cons _ _ => cases hl
  | cons _ _ => cases e
theorem rgs_cons {g : TG} {gs : TGs} {fg : Fg} {fr : List OD → Rho → Option Rho} {s1 s2 : List Nat} (h1 : RG K pin s1 g fg) (h2 : RGs K pin s2 gs fr) : RGs K pin (s1 ++ s2) (gCons g gs) (gsCons fg fr) := by
  intro S H T ρ σ F vs os Q ρ' hl w e k
  cases os with
  | nil => cases e
  | cons o os =>
    cases vs with
    | nil => cases hl
    | cons v vs =>
      have e' : (match fg o ρ with | some ρ1 => fr os ρ1 | none => none) = some ρ' := e
      split at e'
      · rename_i ρ1 q
        refine ⟨v, vs, rfl, h1 S H (vs.zip os ++ T) ρ σ F v o _ ρ1 w q fun S' H' σ' x on w' => ?_⟩
        exact h2 S' H' T ρ1 σ' F vs os Q ρ' (by simpa using hl) w' e' fun S2 H2 σ2 x2 on2 w2 => k S2 H2 σ2 (ex_trans x x2) (on.trans on2) w2
      · cases e'
/-- a pair and the like is taken apart -/
def gT (n : Nat) (r : List OD → Rho → Option Rho) : Fg := fun o ρ => match o with
  | .st (.tup ds) => if ds.length = n then r (ds.map .st) ρ else none
  | _ => none
theorem sat_pushes {S H : Hp} {T F : List It} {ρ : Rho} {σ : L2.St} {vs : List V} {ds : List D} (w : Sat K pin S H T ρ σ F) (r : RpI K S (vs.zip ds)) : Sat K pin S H (vs.zip (ds.map .st) ++ T) ρ σ F := by
  induction vs generalizing ds with
  | nil => exact w
  | cons v vs ih =>
    cases ds with
    | nil => exact w
    | cons d ds =>
      simp only [List.map_cons, List.zip_cons_cons, List.cons_append] at r ⊢
      exact (ih r.tail).push r.head
theorem rgt_tup {n : Nat} {gs : TGs} {fr : List OD → Rho → Option Rho} {sl : List Nat} (h : RGs K pin sl gs fr) : RG K pin sl (gTup K n gs) (gT n fr) := by
  intro S H T ρ σ F v o Q ρ' w e k
  unfold gT at e
  split at e
  · rename_i ds
    split at e
    · rename_i hn
      cases w.known with
      | tup a b c _ =>
        exact ⟨_, _, rfl, SqT.of (w.le _ _ a), b.trans hn, h S H T ρ σ F _ _ Q ρ' (by simpa using b) (sat_pushes w.tl c) e k⟩
    · cases e
  · cases e
structure SG (X : Cx) (pin : List (Option V)) (sl : List Nat) (tg : Expr) (g : TG) (fg : Fg) : Prop where
  pe : PG X tg g
  rd : RG X.K pin sl g fg
structure SGs (X : Cx) (pin : List (Option V)) (sl : List Nat) (tg : List Expr) (g : TGs) (fg : List OD → Rho → Option Rho) : Prop where
  pe : PGs X tg g
  rd : RGs X.K pin sl g fg
theorem sg_name {i : Nat} {x : Str} (hN : X.N.Nodup) (hp : NoPin pin i) (hi : X.N[i]? = some x := by rfl) (hx : Loc X.env.scope x := by first | exact Or.inl rfl | exact Or.inr rfl) (hf : X.fn x = true ∨ X.env.scope.names.lookup x = some .local := by first | exact .inl rfl | exact .inr rfl | assumption) : SG X pin [i] (.Name x pos) (gName i) (gN i) :=
  ⟨pg_name hN hi hx hf, rgt_name hp⟩
theorem sgs_nil : SGs X pin [] [] gNil gsNil := ⟨pgs_nil, rgs_nil⟩
/-! ### assignments -/
def fAsg (f : Fe) (g : Fg) : Fs := fun ρ => match f ρ with
  | some (o, ρ1) => (match g o ρ1 with
    | some ρ2 => some (.nx ρ2)
    | none => none)
  | none => none
theorem rs_asg {g : TG} {fg : Fg} {sl : List Nat} (h : RE K pin t f) (hg : RG K pin sl g fg) : RS K pin (tAsg t g) (fAsg f fg) := by
  intro S H ρ σ F E o w q k
  unfold fAsg at q
  split at q
  · rename_i u ρ1 q1
    split at q
    · rename_i ρ2 q2
      cases q
      exact h S H [] ρ σ F _ _ _ w q1 fun v S' H' x w' => hg S' H' [] ρ1 σ F v u _ ρ2 w' q2 fun S2 H2 σ2 x2 _ w2 => k S2 H2 σ2 (ex_trans x x2) w2
    · cases q
  · cases q
theorem ss_set {i : Nat} {x : Str} {pos' : Pos} (hN : X.N.Nodup) (hp : NoPin pin i) (h : SE X pin e t f) (hi : X.N[i]? = some x := by rfl) (hx : Loc X.env.scope x := by first | exact Or.inl rfl | exact Or.inr rfl) (hs : swapsWith e (some (.Name x pos')) pos.line X.env = pure false := by rfl) (hf : X.fn x = true ∨ X.env.scope.names.lookup x = some .local := by first | exact .inl rfl | exact .inr rfl | assumption) :
    SS X pin (.Assign [.Name x pos'] e pos) (tAsg t (gName i)) (fAsg f (gN i)) := ⟨ps_set hN hi hx h.pe hs hf, rs_asg h.rd (rgt_name hp)⟩
theorem ss_asg {tg : Expr} {g : TG} {fg : Fg} {sl : List Nat} (h : SE X pin e t f) (hg : SG X pin sl tg g fg) (hs : swapsWithSole [tg] e pos.line X.env = pure false := by rfl) (hw : swappedStores [tg] e X.env = pure none := by rfl)
    (h1 : (assignEach [tg] X.env).map (·.2) = [assign tg X.env] := by rfl) : SS X pin (.Assign [tg] e pos) (tAsg t g) (fAsg f fg) := ⟨ps_asg h.pe hg.pe hs hw h1, rs_asg h.rd hg.rd⟩
/-- a, b = x, y: the pair is made and taken apart; what is owned stays owned -/
def fPar (f : Fa) (g : List OD → Rho → Option Rho) : Fs := fun ρ => match f ρ with
  | some (os, ρ1) => (match g os ρ1 with
    | some ρ2 => some (.nx ρ2)
    | none => none)
  | none => none
theorem rs_parT {tt : TA} {ff : Fa} {n : Nat} {gs : TGs} {fr : List OD → Rho → Option Rho} {sl : List Nat} (h : RA K pin tt ff) (hg : RGs K pin sl gs fr) (hn : ∀ ρ os ρ', ff ρ = some (os, ρ') → os.length = n) (hb : n ≤ 100) : RS K pin (tAsg (tTup tt) (gTup K n gs)) (fPar ff fr) := by
  intro S H ρ σ F E o w q k
  unfold fPar at q
  split at q
  · rename_i os ρ1 q1
    split at q
    · rename_i ρ2 q2
      cases q
      refine h S H [] ρ σ F _ _ _ w q1 fun vs S' H' x hl w' => ?_
      have hn' := hn _ _ _ q1
      refine ⟨Nat.le_trans (by omega : vs.length ≤ 100) (by decide), fun p hp => ⟨p, vs, rfl, SqT.of upd_same, by omega, ?_⟩⟩
      exact hg S' _ [] ρ1 σ F vs os _ ρ2 hl (w'.with (w'.own.alloc hp)) q2 fun S2 H2 σ2 x2 _ w2 => k S2 H2 σ2 (ex_trans x x2) w2
    · cases q
  · cases q
end
end Qy
namespace Qy
open PySem PySem.Spec PyProof.Rows L2
section
variable {X : Cx} {pin : List (Option V)} {K : PySem.W.Frag} {e a b : Expr} {pos p : Pos}
theorem sgs_cons {es : List Expr} {t : TG} {u : TGs} {fg : Fg} {fr : List OD → Rho → Option Rho} {s1 s2 : List Nat} (h1 : SG X pin s1 e t fg) (h2 : SGs X pin s2 es u fr) (hs : (assignEach (e :: es) X.env).map (·.2) = assign e X.env :: (assignEach es X.env).map (·.2) := by rfl) : SGs X pin (s1 ++ s2) (e :: es) (gCons t u) (gsCons fg fr) :=
  ⟨pgs_cons h1.pe h2.pe hs, rgs_cons h1.rd h2.rd⟩
theorem sg_tup {es : List Expr} {k : Nat} {t : TGs} {n : Nat} {fr : List OD → Rho → Option Rho} {sl : List Nat} (hc : X.calm = true) (h : SGs X pin sl es t fr) (hn : (assignEach es X.env).length = n := by rfl) (hst : (assignEach es X.env).findIdx? (·.1) = none := by rfl) (hK : X.K = K := by rfl) : SG X pin sl (.Tuple es k pos) (gTup K n t) (gT n fr) := by
  subst hK; exact ⟨pg_tup hc h.pe hn hst, rgt_tup h.rd⟩
/-- a, b = x, y of names that are not all plain locals -/
theorem ss_parT {es gs : List Expr} {k k2 : Nat} {tt : TA} {ff : Fa} {n : Nat} {t : TGs} {fr : List OD → Rho → Option Rho} {sl : List Nat} {p2 p3 : Pos} (hc : X.calm = true) (h : SA X pin es tt ff) (hg : SGs X pin sl gs t fr) (hl : ∀ ρ os ρ', ff ρ = some (os, ρ') → os.length = n) (hb : n ≤ 100)
    (hn : (assignEach gs X.env).length = n := by rfl) (hst : (assignEach gs X.env).findIdx? (·.1) = none := by rfl) (hs : swapsWithSole [.Tuple gs k p2] (.Tuple es k2 p3) pos.line X.env = pure false := by rfl) (hw : swappedStores [.Tuple gs k p2] (.Tuple es k2 p3) X.env = pure none := by rfl)
    (h1 : (assignEach [.Tuple gs k p2] X.env).map (·.2) = [assign (.Tuple gs k p2) X.env] := by rfl) : SS X pin (.Assign [.Tuple gs k p2] (.Tuple es k2 p3) pos) (tAsg (tTup tt) (gTup X.K n t)) (fPar ff fr) :=
  ⟨ps_asg (pe_tup h.pe) (pg_tup hc hg.pe hn hst) hs hw h1, rs_parT h.rd hg.rd hl hb⟩
theorem len_nil : ∀ ρ os ρ', fNil ρ = some (os, ρ') → os.length = 0 := fun ρ os ρ' h => by cases h; rfl
theorem len_cons {f : Fe} {fr : Fa} {n : Nat} (h : ∀ ρ os ρ', fr ρ = some (os, ρ') → os.length = n) : ∀ ρ os ρ', fCons f fr ρ = some (os, ρ') → os.length = n + 1 := fun ρ os ρ' q => by
  unfold fCons at q
  split at q
  · split at q
    · rename_i q2
      cases q
      simp [h _ _ _ q2]
    · cases q
  · cases q
/-- a, b = x, y of plain locals -/
def gs2 (i j : Nat) : List OD → Rho → Option Rho
  | [o1, o2], ρ => if i < ρ.length ∧ j < ρ.length then some ((ρ.set i (some o1)).set j (some o2)) else none
  | _, _ => none
theorem ss_par2 {i j : Nat} {x y : Str} {ta : TA} {ff : Fa} {px py pt : Pos} {kt k2 pt2} (hc : X.calm = true) (hN : X.N.Nodup) (hp1 : NoPin pin i) (hp2 : NoPin pin j) (hij : i ≠ j) (ha : SA X pin [a, b] ta ff)
    (hi : X.N[i]? = some x := by rfl) (hj : X.N[j]? = some y := by rfl)
    (hx : X.env.scope.names.lookup x = some .local := by rfl) (hy : X.env.scope.names.lookup y = some .local := by rfl)
    (hw : swappedStores [.Tuple [.Name x px, .Name y py] kt pt] (.Tuple [a, b] k2 pt2) X.env = pure (some [x, y]) := by rfl)
    (hs : swapsWithSole [.Tuple [.Name x px, .Name y py] kt pt] (.Tuple [a, b] k2 pt2) pos.line X.env = pure false := by rfl) :
    SS X pin (.Assign [.Tuple [.Name x px, .Name y py] kt pt] (.Tuple [a, b] k2 pt2) pos) (tPar i j ta) (fPar ff (gs2 i j)) := by
  refine ⟨ps_par hc hN hi hj hij hx hy ha.pe hw hs, ?_⟩
  intro S H ρ σ F E o w q k
  unfold fPar at q
  split at q
  · rename_i os ρ1 q1
    split at q
    · rename_i ρ2 q2
      cases q
      refine ha.rd S H [] ρ σ F _ _ _ w q1 fun vs S' H' x hl w' => ?_
      unfold gs2 at q2
      split at q2
      · rename_i o1 o2
        split at q2
        · rename_i hb
          cases q2
          match vs, hl with
          | [v1, v2], _ => exact ⟨v1, v2, rfl, k S' H' _ x ((w'.asg hb.1 hp1).asg (by simpa using hb.2) hp2)⟩
        · cases q2
      · cases q2
    · cases q
  · cases q

/-! ### what is walked -/
abbrev Fi := Rho → Option (List D × Rho)
def RI (K : PySem.W.Frag) (pin : List (Option V)) (wi : TI) (f : Fi) : Prop := ∀ S H T ρ σ F R ds ρ', Sat K pin S H T ρ σ F → f ρ = some (ds, ρ') →
  (∀ J G Y S' H', Ex S S' → Sat K pin S' H' T ρ' σ F → Walk J ds.length G Y → (∀ H2, Ex S' H2 → G H2) →
    (∀ i d H2 x H3 S2 L, ds[i]? = some d → Ex S' S2 → Own K S2 H2 [] L → Y i H2 x H3 → ∃ S3, Ex S2 S3 ∧ Own K S3 H3 [] ((x, .st d) :: L)) → R J H') → wi σ H R
structure SI (X : Cx) (pin : List (Option V)) (tg it : Expr) (wi : TI) (f : Fi) : Prop where
  pe : PI X tg it wi
  rd : RI X.K pin wi f
theorem rp_at {S : Hp} {vs : List V} {ds : List D} (h : RpI K S (vs.zip ds)) {i : Nat} {x : V} {d : D} (hx : vs[i]? = some x) (hd : ds[i]? = some d) : Rp K S x d :=
  RpI.all.mp h (x, d) (List.mem_of_getElem? (by rw [List.getElem?_zip_eq_some]; exact ⟨hx, hd⟩))
theorem PI.or {tg it : Expr} {w1 w2 : TI} (h1 : PI X tg it w1) (h2 : PI X tg it w2) : PI X tg it (fun σ H R => w1 σ H R ∨ w2 σ H R) := ⟨fun pins s σ H R I h => by
  rcases h with h | h
  · exact h1.run pins s σ H R I h
  · exact h2.run pins s σ H R I h⟩
/-- the signs of a text, each a text -/
def signs (z : Str) : List D := z.cps.toList.map fun c => .str ⟨#[c]⟩
/-- a list, a tuple or a text -/
def fItS (f : Fe) : Fi := fun ρ => match f ρ with
  | some (.st (.lst ds), ρ') => some (ds, ρ')
  | some (.st (.tup ds), ρ') => some (ds, ρ')
  | some (.st (.kt ds), ρ') => some (ds, ρ')
  | some (.st (.str z), ρ') => some (signs z, ρ')
  | _ => none
def iSeq (K : PySem.W.Frag) (t : TE) : TI := fun σ H R => iList K t σ H R ∨ (iTup K t σ H R ∨ iStr t σ H R)
theorem ri_seq {t : TE} {f : Fe} (h : RE K pin t f) : RI K pin (iSeq K t) (fItS f) := by
  intro S H T ρ σ F R ds ρ' w e k
  unfold fItS at e
  split at e
  · rename_i ds' ρ1 q
    cases e
    refine .inl (h S H T ρ σ F _ _ _ w q fun v S' H' x w' => ?_)
    cases w'.known with
    | lst a b c q9 =>
      rename_i ad vs
      refine ⟨ad, rfl, ⟨vs, SqL.of (w'.le _ _ a)⟩, k _ _ (YAt vs) S' H' x w'.tl (b ▸ walk_list (K := K)) (fun H2 e2 => SqL.of (e2 _ _ a)) fun i d H2 y H3 S2 L hd e2 o2 hy => ?_⟩
      obtain ⟨rfl, hv⟩ := hy
      exact ⟨S2, ex_refl S2, o2.push ((rp_at c hv hd).mono e2)⟩
  · rename_i ds' ρ1 q
    cases e
    refine .inr (.inl (h S H T ρ σ F _ _ _ w q fun v S' H' x w' => ?_))
    cases w'.known with
    | tup a b c q9 =>
      rename_i ad vs
      refine ⟨ad, rfl, ⟨vs, SqT.of (w'.le _ _ a)⟩, k _ _ (YAt vs) S' H' x w'.tl (b ▸ walk_tup (K := K)) (fun H2 e2 => SqT.of (e2 _ _ a)) fun i d H2 y H3 S2 L hd e2 o2 hy => ?_⟩
      obtain ⟨rfl, hv⟩ := hy
      exact ⟨S2, ex_refl S2, o2.push ((rp_at c hv hd).mono e2)⟩
  · rename_i ds' ρ1 q
    cases e
    refine .inr (.inl (h S H T ρ σ F _ _ _ w q fun v S' H' x w' => ?_))
    cases w'.known with
    | kt a b c q9 =>
      rename_i ad vs
      refine ⟨ad, rfl, ⟨vs, ex_t w'.le a⟩, k _ _ (YAt vs) S' H' x w'.tl (b ▸ walk_tup (K := K)) (fun H2 e2 => ex_t e2 a) fun i d H2 y H3 S2 L hd e2 o2 hy => ?_⟩
      obtain ⟨rfl, hv⟩ := hy
      exact ⟨S2, ex_refl S2, o2.push ((rp_at c hv hd).mono e2)⟩
  · rename_i z ρ1 q
    cases e
    refine .inr (.inr (h S H T ρ σ F _ _ _ w q fun v S' H' x w' => ?_))
    cases w'.known
    have hn : (signs z).length = z.cps.size := by simp [signs]
    refine ⟨z, rfl, k _ _ _ S' H' x w'.tl (hn ▸ walk_str) (fun _ _ => trivial) fun i d H2 y H3 S2 L hd e2 o2 hy => ?_⟩
    obtain ⟨rfl, c, hc, rfl⟩ := hy
    have : d = .str ⟨#[c]⟩ := by
      have hc' : z.cps.toList[i]? = some c := by simpa using hc
      simp only [signs, List.getElem?_map, hc'] at hd
      exact (Option.some.inj hd).symm
    subst this
    exact ⟨S2, ex_refl S2, o2.push (.str .nil)⟩
  · cases e
theorem si_seq {tg : Expr} {t : TE} {f : Fe} (h : SE X pin e t f) (hK : X.K = K := by rfl) : SI X pin tg e (iSeq K t) (fItS f) := by subst hK; exact ⟨PI.or (pi_list h.pe) (PI.or (pi_tup h.pe) (pi_str h.pe)), ri_seq h.rd⟩
/-- range(n), range(m, n) -/
def rngD (lo : Int) (n : Nat) : List D := (List.range n).map fun (i : Nat) => .int (lo + (i : Int))
def fItR1 (f : Fa) : Fi := fun ρ => match f ρ with
  | some ([.st (.int j)], ρ') => if -(2 ^ 62) ≤ j ∧ j < 2 ^ 62 then some (rngD 0 j.toNat, ρ') else none
  | _ => none
def fItR2 (f : Fa) : Fi := fun ρ => match f ρ with
  | some ([.st (.int i), .st (.int j)], ρ') => if -(2 ^ 62) ≤ i ∧ i < 2 ^ 62 ∧ -(2 ^ 62) ≤ j ∧ j < 2 ^ 62 then some (rngD i (j - i).toNat, ρ') else none
  | _ => none
theorem rng_y {lo : Int} {n i : Nat} {d : D} (h : (rngD lo n)[i]? = some d) : d = .int (lo + (i : Int)) := by
  simp only [rngD, List.getElem?_map] at h
  cases q : (List.range n)[i]? with
  | none => rw [q] at h; cases h
  | some k =>
    rw [q] at h
    have : k = i := by
      have := List.getElem?_range (n := n) (i := i) (by
        have := (List.getElem?_eq_some_iff.mp q).1
        simpa using this)
      rw [this] at q
      exact (Option.some.inj q).symm
    subst this
    exact (Option.some.inj h).symm
theorem ri_rng1 {t : TA} {f : Fa} (h : RA K pin t f) : RI K pin (iRng1 t) (fItR1 f) := by
  intro S H T ρ σ F R ds ρ' w e k
  unfold fItR1 at e
  split at e
  · rename_i j ρ1 q
    split at e
    · rename_i hb
      cases e
      refine h S H T ρ σ F _ _ _ w q fun vs S' H' x hl w' => ?_
      match vs, hl with
      | [v], _ =>
        cases (show Rp K S' v (.int j) from w'.known)
        have hn : (rngD 0 j.toNat).length = j.toNat := by simp [rngD]
        refine ⟨j, rfl, hb.1, hb.2, k (Itr 0 j.toNat) (fun _ => True) (YFn fun i => .int (0 + (i : Int))) S' H' x w'.tl (by rw [hn]; exact walk_range) (fun _ _ => trivial) fun i d H2 y H3 S2 L hd e2 o2 hy => ?_⟩
        obtain ⟨rfl, rfl⟩ := hy
        rw [rng_y hd]
        exact ⟨S2, ex_refl S2, o2.push (.int .nil)⟩
    · cases e
  · cases e
theorem ri_rng2 {t : TA} {f : Fa} (h : RA K pin t f) : RI K pin (iRng2 t) (fItR2 f) := by
  intro S H T ρ σ F R ds ρ' w e k
  unfold fItR2 at e
  split at e
  · rename_i i j ρ1 q
    split at e
    · rename_i hb
      cases e
      refine h S H T ρ σ F _ _ _ w q fun vs S' H' x hl w' => ?_
      match vs, hl with
      | [v, u], _ =>
        have w'' : Sat K pin S' H' ((v, .st (.int i)) :: (u, .st (.int j)) :: T) ρ' σ F := w'
        cases (show Rp K S' v (.int i) from w''.known)
        cases (show Rp K S' u (.int j) from w''.tl.known)
        have hn : (rngD i (j - i).toNat).length = (j - i).toNat := by simp [rngD]
        refine ⟨i, j, rfl, hb, k (Itr i (j - i).toNat) (fun _ => True) (YFn fun n => .int (i + (n : Int))) S' H' x w''.tl.tl (by rw [hn]; exact walk_range) (fun _ _ => trivial) fun i d H2 y H3 S2 L hd e2 o2 hy => ?_⟩
        obtain ⟨rfl, rfl⟩ := hy
        rw [rng_y hd]
        exact ⟨S2, ex_refl S2, o2.push (.int .nil)⟩
    · cases e
  · cases e
theorem si_rng1 {tg : Expr} {t : TA} {f : Fa} (hm : X.mg "range" = none) (h : SA X pin [a] t f) (hg : Gl X "range" := by rfl) (hs : starEach [a] X.env = [(false, eval a X.env)] := by rfl) : SI X pin tg (.Call (.Name "range" p) [a] [] pos) (iRng1 t) (fItR1 f) := ⟨pi_range1 hg hm h.pe hs, ri_rng1 h.rd⟩
theorem si_rng2 {tg : Expr} {t : TA} {f : Fa} (hm : X.mg "range" = none) (h : SA X pin [a, b] t f) (hg : Gl X "range" := by rfl) (hs : starEach [a, b] X.env = [(false, eval a X.env), (false, eval b X.env)] := by rfl) (hs2 : starEach [b] X.env = [(false, eval b X.env)] := by rfl) : SI X pin tg (.Call (.Name "range" p) [a, b] [] pos) (iRng2 t) (fItR2 f) := ⟨pi_range2 hg hm h.pe hs hs2, ri_rng2 h.rd⟩

/-! ### for, while -/
def loopF (tg : Fg) (body : Fs) : List D → Rho → Option Out
  | [], ρ => some (.nx ρ)
  | d :: ds, ρ => match tg (.st d) ρ with
    | none => none
    | some ρ1 => match body ρ1 with
      | some (.nx ρ2) => loopF tg body ds ρ2
      | some (.ct ρ2) => loopF tg body ds ρ2
      | some (.bk ρ2) => some (.nx ρ2)
      | some (.rt o ρ2) => some (.rt o ρ2)
      | none => none
def fFor (it : Fi) (tg : Fg) (body : Fs) : Fs := fun ρ => match it ρ with
  | some (ds, ρ') => loopF tg body ds ρ'
  | none => none
theorem rs_for {wi : TI} {fi : Fi} {g : TG} {fg : Fg} {sl : List Nat} {tb : TS} {fb : Fs} (hi : RI K pin wi fi) (hg : RG K pin sl g fg) (hb : RS K pin tb fb) : RS K pin (tFor wi g tb) (fFor fi fg fb) := by
  intro S H ρ σ F E o w e k
  unfold fFor at e
  split at e
  · rename_i ds ρ1 q
    refine hi S H [] ρ σ F _ ds ρ1 w q fun J G Y S' H' x w' W hG hY => ?_
    refine for_it W (fun i σ H => ∃ S2 ρ2, Ex S' S2 ∧ Sat K pin S2 H [] ρ2 σ F ∧ loopF fg fb (ds.drop i) ρ2 = some o ∨ False) ⟨S', ρ1, .inl ⟨ex_refl S', w', by simpa using e⟩⟩ ?_ ?_ ?_
    · rintro i σ H _ ⟨S2, ρ2, z⟩
      rcases z with ⟨e2, w2, _⟩ | z
      · exact hG H (ex_trans e2 w2.le)
      · exact z.elim
    · rintro i y σ H H2 hi' ⟨S2, ρ2, z⟩ hy
      rcases z with ⟨e2, w2, l2⟩ | z
      · obtain ⟨d, hd⟩ : ∃ d, ds[i]? = some d := ⟨ds[i], by simp [hi']⟩
        have hdr : ds.drop i = d :: ds.drop (i + 1) := by
          rw [List.drop_eq_getElem_cons hi']
          congr 1
          have := List.getElem?_eq_getElem hi'
          rw [this] at hd
          exact Option.some.inj hd
        rw [hdr] at l2
        obtain ⟨S3, e3, o3⟩ := hY i d H y H2 S2 _ hd e2 w2.own hy
        have w3 : Sat K pin S3 H2 [(y, .st d)] ρ2 σ F := w2.with o3
        unfold loopF at l2
        split at l2
        · cases l2
        · rename_i ρ3 q3
          refine hg S3 H2 [] ρ2 σ F y (.st d) _ ρ3 w3 q3 fun S4 H4 σ4 e4 _ w4 => ?_
          have e04 : Ex S' S4 := ex_trans e2 (ex_trans e3 e4)
          split at l2
          · rename_i ρ5 q5
            exact hb S4 H4 ρ3 σ4 F _ _ w4 q5 fun S5 H5 σ5 e5 w5 => ⟨S5, ρ5, .inl ⟨ex_trans e04 e5, w5, l2⟩⟩
          · rename_i ρ5 q5
            exact hb S4 H4 ρ3 σ4 F _ _ w4 q5 fun S5 H5 σ5 e5 w5 => ⟨S5, ρ5, .inl ⟨ex_trans e04 e5, w5, l2⟩⟩
          · rename_i ρ5 q5
            cases l2
            exact hb S4 H4 ρ3 σ4 F _ _ w4 q5 fun S5 H5 σ5 e5 w5 => k S5 H5 σ5 (ex_trans x (ex_trans e04 e5)) w5
          · rename_i u ρ5 q5
            cases l2
            exact hb S4 H4 ρ3 σ4 F _ _ w4 q5 fun v S5 H5 σ5 e5 w5 => k v S5 H5 σ5 (ex_trans x (ex_trans e04 e5)) w5
          · cases l2
      · exact z.elim
    · rintro σ H ⟨S2, ρ2, z⟩
      rcases z with ⟨e2, w2, l2⟩ | z
      · rw [List.drop_length] at l2
        cases l2
        exact k S2 H σ (ex_trans x e2) w2
      · exact z.elim
  · cases e
theorem ss_for {tg it : Expr} {body : List Stmt} {wi : TI} {fi : Fi} {g : TG} {fg : Fg} {sl : List Nat} {tb : TS} {fb : Fs} (hp : PassesOwn (model X.prog X.w) X.A X.env X.xe) (hc : X.calm = true) (hi : SI X pin tg it wi fi) (hg : SG X pin sl tg g fg) (hb : SB X pin body tb fb)
    (hs : ∀ x, foldedSetIterable it X.env x = pure x := by intro _; rfl) : SS X pin (.For tg it body [] pos) (tFor wi g tb) (fFor fi fg fb) := ⟨ps_for hp hc hi.pe hg.pe hb.pe hs, rs_for hi.rd hg.rd hb.rd⟩
def loopW (c : Ft) (body : Fs) : Nat → Rho → Option Out
  | 0, _ => none
  | n + 1, ρ => match c ρ with
    | none => none
    | some (false, ρ1) => some (.nx ρ1)
    | some (true, ρ1) => match body ρ1 with
      | some (.nx ρ2) => loopW c body n ρ2
      | some (.ct ρ2) => loopW c body n ρ2
      | some (.bk ρ2) => some (.nx ρ2)
      | some (.rt o ρ2) => some (.rt o ρ2)
      | none => none
theorem rs_while {tc : TT} {fc : Ft} {tb : TS} {fb : Fs} {n : Nat} (hc : RT K pin tc fc) (hb : RS K pin tb fb) : RS K pin (tWhile tc tb) (fun ρ => loopW fc fb n ρ) := by
  intro S H ρ σ F E o w e k
  refine ⟨fun m σ H => ∃ S2 ρ2, Ex S S2 ∧ Sat K pin S2 H [] ρ2 σ F ∧ loopW fc fb m ρ2 = some o, ⟨n, S, ρ, ex_refl S, w, e⟩, ?_⟩
  rintro m σ H ⟨S2, ρ2, e2, w2, l2⟩
  cases m with
  | zero => cases l2
  | succ m =>
    unfold loopW at l2
    split at l2
    · cases l2
    · rename_i ρ3 q3
      cases l2
      refine hc S2 H [] ρ2 σ F _ _ _ w2 q3 fun S3 H3 e3 w3 => ?_
      show E.nx σ H3
      exact k S3 H3 σ (ex_trans e2 e3) w3
    · rename_i ρ3 q3
      refine hc S2 H [] ρ2 σ F _ _ _ w2 q3 fun S3 H3 e3 w3 => ?_
      show ∃ N : L2.St → Hp → Prop, (∀ σ' H', N σ' H' → ∃ m', m' < m + 1 ∧ _) ∧ _
      refine ⟨fun σ H => ∃ S2 ρ2, Ex S S2 ∧ Sat K pin S2 H [] ρ2 σ F ∧ loopW fc fb m ρ2 = some o, fun σ' H' z => ⟨m, Nat.lt_succ_self m, z⟩, ?_⟩
      have e03 := ex_trans e2 e3
      split at l2
      · rename_i ρ5 q5
        exact hb S3 H3 ρ3 σ F _ _ w3 q5 fun S5 H5 σ5 e5 w5 => ⟨S5, ρ5, ex_trans e03 e5, w5, l2⟩
      · rename_i ρ5 q5
        exact hb S3 H3 ρ3 σ F _ _ w3 q5 fun S5 H5 σ5 e5 w5 => ⟨S5, ρ5, ex_trans e03 e5, w5, l2⟩
      · rename_i ρ5 q5
        cases l2
        exact hb S3 H3 ρ3 σ F _ _ w3 q5 fun S5 H5 σ5 e5 w5 => k S5 H5 σ5 (ex_trans e03 e5) w5
      · rename_i u ρ5 q5
        cases l2
        exact hb S3 H3 ρ3 σ F _ _ w3 q5 fun v S5 H5 σ5 e5 w5 => k v S5 H5 σ5 (ex_trans e03 e5) w5
      · cases l2
theorem ss_while {c : Expr} {body : List Stmt} {tc : TT} {fc : Ft} {tb : TS} {fb : Fs} (n : Nat) (hp : PassesOwn (model X.prog X.w) X.A X.env X.xe) (hc : STs X pin c tc fc) (hb : SB X pin body tb fb) : SS X pin (.While c body [] pos) (tWhile tc tb) (fun ρ => loopW fc fb n ρ) := ⟨ps_while hp hc.pe hb.pe, rs_while hc.rd hb.rd⟩
end
end Qy
set_option Elab.async false
set_option linter.all false
set_option maxRecDepth 100000
set_option maxHeartbeats 400000
namespace Qy
open PySem PySem.Spec PyProof.Rows L2
section
variable {X : Cx} {pin : List (Option V)} {K : PySem.W.Frag} {e a b : Expr} {pos p : Pos}
/-- the own names of a block forgotten -/
def wipeR (ρ : Rho) : List Nat → Rho
  | [] => ρ
  | v :: vs => (wipeR ρ vs).set v none
theorem its_congr : ∀ (ρ : Rho) (σ σ' : L2.St), (∀ (i : Nat) o, ρ[i]? = some (some o) → σ'[i]? = σ[i]?) → σ'.length = σ.length → its ρ σ' = its ρ σ
  | [], σ, σ', _, _ => by cases σ <;> cases σ' <;> rfl
  | a :: ρ, [], σ', h, hl => by
    have : σ' = [] := by simpa using hl
    subst this; rfl
  | a :: ρ, b :: σ, [], h, hl => by simp at hl
  | none :: ρ, b :: σ, c :: σ', h, hl => by
    have := its_congr ρ σ σ' (fun i o q => by simpa using h (i + 1) o (by simpa using q)) (by simpa using hl)
    simpa [its] using this
  | some o :: ρ, b :: σ, c :: σ', h, hl => by
    have h0 : c = b := by simpa using h 0 o (by simp)
    subst h0
    have := its_congr ρ σ σ' (fun i o q => by simpa using h (i + 1) o (by simpa using q)) (by simpa using hl)
    cases c <;> simpa [its] using this
variable {S H : Hp} {T F : List It} {ρ : Rho} {σ σ' : L2.St}
theorem Sat.slots (w : Sat K pin S H T ρ σ F) (h : ∀ (i : Nat) o, ρ[i]? = some (some o) → σ'[i]? = σ[i]?) (hl : σ'.length = σ.length) (hp : ∀ (i : Nat) v, pin[i]? = some (some v) → σ'[i]? = some (some v)) : Sat K pin S H T ρ σ' F :=
  ⟨by rw [its_congr ρ σ σ' h hl]; exact w.own, fun i o q => by rw [h i o q]; exact w.wf i o q, w.len.trans hl.symm, hp⟩
theorem wipeR_get {vs : List Nat} {i : Nat} {o : OD} : (wipeR ρ vs)[i]? = some (some o) → ρ[i]? = some (some o) ∧ i ∉ vs := by
  induction vs with
  | nil => exact fun h => ⟨h, by simp⟩
  | cons v vs ih =>
    intro h
    unfold wipeR at h
    by_cases e : v = i
    · subst e
      by_cases hl : v < (wipeR ρ vs).length
      · rw [List.getElem?_set_self hl] at h; cases h
      · rw [List.getElem?_eq_none (by simpa using hl)] at h; cases h
    · rw [List.getElem?_set_ne e] at h
      obtain ⟨h1, h2⟩ := ih h
      exact ⟨h1, fun z => by rcases List.mem_cons.mp z with z | z; exact e z.symm; exact h2 z⟩
theorem Sat.wipeR (w : Sat K pin S H T ρ σ F) : ∀ vs : List Nat, Sat K pin S H T (wipeR ρ vs) σ F
  | [] => w
  | v :: vs => (Sat.wipeR w vs).forget
theorem wipe_get {vs : List Nat} {i : Nat} (h : i ∉ vs) : (wipe σ vs)[i]? = σ[i]? := by
  induction vs with
  | nil => rfl
  | cons v vs ih =>
    unfold wipe
    rw [List.getElem?_set_ne (fun z => h (by simp [z]))]
    exact ih fun z => h (List.mem_cons_of_mem _ z)
theorem pin_out {vs : List Nat} (hp : ∀ i ∈ vs, NoPin pin i) {i : Nat} {v : V} (h : pin[i]? = some (some v)) : i ∉ vs := fun z => by
  rcases hp i z with q | q
  · rw [q] at h; cases h
  · rw [q] at h; cases h
/-- into a block and out of it -/
theorem Sat.into {vs : List Nat} (w : Sat K pin S H T ρ σ F) (hp : ∀ i ∈ vs, NoPin pin i) : Sat K pin S H T (Qy.wipeR ρ vs) (wipe σ vs) F :=
  (w.wipeR vs).slots (fun i o h => wipe_get (wipeR_get h).2) (wipe_length σ vs) fun i v h => by rw [wipe_get (pin_out hp h)]; exact w.pin i v h
theorem wipe_only {vs sl : List Nat} {σ2 : L2.St} (h : Only sl (wipe σ vs) σ2) (hs : ∀ i ∈ sl, i ∈ vs) : wipe σ2 vs = wipe σ vs := by
  have key : ∀ (us : List Nat) (s : L2.St) (i : Nat), i ∈ us → i < s.length → (wipe s us)[i]? = some none := by
    intro us
    induction us with
    | nil => intro s i hi; cases hi
    | cons v us ih =>
      intro s i hi hl
      unfold wipe
      by_cases e : v = i
      · subst e; rw [List.getElem?_set_self (by rw [wipe_length]; exact hl)]
      · rw [List.getElem?_set_ne e]
        rcases List.mem_cons.mp hi with z | z
        · exact absurd z.symm e
        · exact ih s i z hl
  apply List.ext_getElem?
  intro i
  by_cases hi : i ∈ vs
  · by_cases hl : i < σ.length
    · rw [key vs σ2 i hi (by rw [h.1, wipe_length]; exact hl), key vs σ i hi hl]
    · rw [List.getElem?_eq_none (by rw [wipe_length, h.1, wipe_length]; omega), List.getElem?_eq_none (by rw [wipe_length]; omega)]
  · rw [wipe_get hi, h.2 i fun z => hi (hs i z)]
theorem Sat.outof {vs : List Nat} {s : L2.St} (w : Sat K pin S H T ρ s F) (hw : wipe s vs = wipe σ vs) (hp : ∀ i ∈ vs, NoPin pin i) : Sat K pin S H T (Qy.wipeR ρ vs) (wipe σ vs) F := by
  have := w.into (vs := vs) hp
  rw [hw] at this
  exact this
theorem Sat.leave {vs : List Nat} (w : Sat K pin S H T (Qy.wipeR ρ vs) (wipe σ vs) F) (hp : ∀ (i : Nat) v, pin[i]? = some (some v) → σ[i]? = some (some v)) : Sat K pin S H T (Qy.wipeR ρ vs) σ F :=
  w.slots (fun i o h => (wipe_get (wipeR_get h).2).symm) (wipe_length σ vs).symm hp
/-- an item goes to the end of a list -/
theorem Own.app {p : Addr} {os : List OD} {v : V} {o : OD} {L : List It} (h : Own K S H [] ((v, o) :: (.ref p, .ol os) :: L)) : ∃ vs, H p = some (.lst vs) ∧ vs.length = os.length ∧ Own K S (upd H p (.lst (vs ++ [v]))) [] ((.ref p, .ol (os ++ [o])) :: L) := by
  obtain ⟨vs, h1, h2, h3, h4⟩ := (h.perm (.swap _ _ _)).open_
  refine ⟨vs, h1, h2, Own.close (h4.perm ?_) (by simp [h2]) h3⟩
  rw [zip_app h2]
  simp

/-! ### the tests of a comprehension -/
structure STL (X : Cx) (pin : List (Option V)) (es : List Expr) (t : TT) (f : Ft) : Prop where
  pe : PTs X es t
  rd : RT X.K pin t f
def fYes : Ft := fun ρ => some (true, ρ)
theorem stl_nil : STL X pin [] tYes fYes := ⟨pts_nil, by
  intro S H T ρ σ F Q b ρ' w e k
  cases e
  exact k S H (ex_refl S) w⟩
theorem stl_one {t : TT} {f : Ft} (h : STs X pin e t f) : STL X pin [e] t f := ⟨pts_one h.pe, h.rd⟩

/-! ### list comprehensions -/
def compL (own : List Nat) (tg : Fg) (tt : Ft) (te : Fe) : List D → Rho → List OD → Option (List OD × Rho)
  | [], ρ, acc => some (acc, ρ)
  | d :: ds, ρ, acc => match tg (.st d) ρ with
    | none => none
    | some ρ1 => match tt ρ1 with
      | none => none
      | some (false, ρ2) => compL own tg tt te ds (wipeR ρ2 own) acc
      | some (true, ρ2) => match te ρ2 with
        | none => none
        | some (o, ρ3) => if acc.length ≤ big then compL own tg tt te ds (wipeR ρ3 own) (acc ++ [o]) else none
def fLc (own : List Nat) (it : Fi) (tg : Fg) (tt : Ft) (te : Fe) : Fe := fun ρ => match it ρ with
  | none => none
  | some (ds, ρ1) => match compL own tg tt te ds (wipeR ρ1 own) [] with
    | none => none
    | some (acc, ρ2) => some (.ol acc, wipeR ρ2 own)
theorem re_lc {wi : TI} {fi : Fi} {g : TG} {fg : Fg} {sl own : List Nat} {tt : TT} {ft : Ft} {te : TE} {fe : Fe} (hi : RI K pin wi fi) (hg : RG K pin sl g fg) (ht : RT K pin tt ft) (he : RE K pin te fe) (hs : ∀ i ∈ sl, i ∈ own) (hp : ∀ i ∈ own, NoPin pin i) :
    RE K pin (tLc wi g tt te own) (fLc own fi fg ft fe) := by
  intro S H T ρ σ F Q od ρ' w e k
  unfold fLc at e
  split at e
  · cases e
  · rename_i ds ρ1 q
    split at e
    · cases e
    · rename_i acc ρ2 q2
      cases e
      refine hi S H T ρ σ F _ ds ρ1 w q fun J G Y S' H' x w' W hG hY D hD => ?_
      have pin0 := w'.pin
      refine lc_it W (fun i H => ∃ S2 ρ3 ac, Ex S' S2 ∧ Sat K pin S2 H ((.ref D, .ol ac) :: T) ρ3 (wipe σ own) F ∧ compL own fg ft fe (ds.drop i) ρ3 ac = some (acc, ρ2)) ?_ ?_ ?_ ?_
      · refine ⟨S', wipeR ρ1 own, [], ex_refl S', ?_, by simpa using q2⟩
        have w1 := w'.into (vs := own) hp
        exact w1.with (Own.newL (vs := []) (os := []) w1.own rfl hD)
      · rintro i H _ ⟨S2, ρ3, ac, e2, w2, _⟩
        exact hG H (ex_trans e2 w2.le)
      · rintro i y H H2 hi' ⟨S2, ρ3, ac, e2, w2, l2⟩ hy
        obtain ⟨d, hd⟩ : ∃ d, ds[i]? = some d := ⟨ds[i], by simp [hi']⟩
        have hdr : ds.drop i = d :: ds.drop (i + 1) := by
          rw [List.drop_eq_getElem_cons hi']
          congr 1
          have := List.getElem?_eq_getElem hi'
          rw [this] at hd
          exact Option.some.inj hd
        rw [hdr] at l2
        obtain ⟨S3, e3, o3⟩ := hY i d H y H2 S2 _ hd e2 w2.own hy
        have w3 : Sat K pin S3 H2 ((y, .st d) :: (.ref D, .ol ac) :: T) ρ3 (wipe σ own) F := w2.with o3
        unfold compL at l2
        split at l2
        · cases l2
        · rename_i ρ4 q4
          refine hg S3 H2 _ ρ3 (wipe σ own) F y (.st d) _ ρ4 w3 q4 fun S4 H4 σ4 e4 on w4 => ?_
          have hw := wipe_only on hs
          refine ⟨hw, ?_⟩
          have e04 : Ex S' S4 := ex_trans e2 (ex_trans e3 e4)
          split at l2
          · cases l2
          · rename_i ρ5 q5
            refine ht S4 H4 _ ρ4 σ4 F _ _ _ w4 q5 fun S5 H5 e5 w5 => ?_
            exact ⟨S5, wipeR ρ5 own, ac, ex_trans e04 e5, w5.outof hw hp, l2⟩
          · rename_i ρ5 q5
            refine ht S4 H4 _ ρ4 σ4 F _ _ _ w4 q5 fun S5 H5 e5 w5 => ?_
            show te σ4 H5 _
            split at l2
            · cases l2
            · rename_i o ρ6 q6
              split at l2
              · rename_i hb
                refine he S5 H5 _ ρ5 σ4 F _ _ _ w5 q6 fun v S6 H6 e6 w6 => ?_
                obtain ⟨vs, h1, h2, h3⟩ := w6.own.app
                refine ⟨vs, h1, by rw [h2]; exact big_lt hb, S6, wipeR ρ6 own, ac ++ [o], ex_trans e04 (ex_trans e5 e6), ?_, l2⟩
                exact (w6.with h3).outof hw hp
              · cases l2
      · rintro H ⟨S2, ρ3, ac, e2, w2, l2⟩
        rw [List.drop_length] at l2
        cases l2
        have w3 : Sat K pin S2 H ((.ref D, .ol acc) :: T) (wipeR ρ2 own) (wipe σ own) F := by
          have := w2.into (vs := own) hp
          have hh : wipe (wipe σ own) own = wipe σ own := wipe_only (sl := []) (Only.refl _) (fun _ z => nomatch z)
          rw [hh] at this
          exact this
        exact k _ S2 H (ex_trans x e2) (w3.leave pin0)
theorem se_lc {elt tg iter : Expr} {ifs : List Expr} {scope : Scope} {own : List (Str × Nat)} {wi : TI} {fi : Fi} {g : TG} {fg : Fg} {sl : List Nat} {tt : TT} {ft : Ft} {te : TE} {fe : Fe} (hc : X.calm = true) (hN : X.N.Nodup) (hi : SI X pin tg iter wi fi) (ok : BlkOk X.N X.env.scope scope own)
    (hp : ∀ i ∈ own.map (·.2), NoPin pin i) (hsl : ∀ i ∈ sl, i ∈ own.map (·.2))
    (hg : ∀ (s : Shared) (H : Hp) (C : Addr) (cl : List (Str × Addr)) (fp : List Addr), SG (X.blk s H scope (compEnvC scope cl C X.env) fp) pin sl tg g fg) (ht : ∀ (s : Shared) (H : Hp) (C : Addr) (cl : List (Str × Addr)) (fp : List Addr), STL (X.blk s H scope (compEnvC scope cl C X.env) fp) pin ifs tt ft)
    (he : ∀ (s : Shared) (H : Hp) (C : Addr) (cl : List (Str × Addr)) (fp : List Addr), SE (X.blk s H scope (compEnvC scope cl C X.env) fp) pin elt te fe) (hs : ∀ x, foldedSetIterable iter X.env x = pure x := by intro _; rfl) :
    SE X pin (.ListComp elt [⟨tg, iter, ifs, 0⟩] scope pos) (tLc wi g tt te (own.map (·.2))) (fLc (own.map (·.2)) fi fg ft fe) :=
  ⟨pe_lc hc hN hi.pe ok (fun s H C cl fp => (hg s H C cl fp).pe) (fun s H C cl fp => (ht s H C cl fp).pe) (fun s H C cl fp => (he s H C cl fp).pe) hs,
   re_lc hi.rd (hg X.s_0 X.H_0 0 [] []).rd (ht X.s_0 X.H_0 0 [] []).rd (he X.s_0 X.H_0 0 [] []).rd hsl hp⟩
theorem ss_setLc {i : Nat} {y : Str} {py : Pos} {elt tg iter : Expr} {ifs : List Expr} {scope : Scope} {own : List (Str × Nat)} {spos : Pos} {wi : TI} {fi : Fi} {g : TG} {fg : Fg} {sl : List Nat} {tt : TT} {ft : Ft} {te : TE} {fe : Fe} (hc : X.calm = true) (hN : X.N.Nodup) (hpi : NoPin pin i) (hi : SI X pin tg iter wi fi) (ok : BlkOk X.N X.env.scope scope own)
    (hp : ∀ i ∈ own.map (·.2), NoPin pin i) (hsl : ∀ i ∈ sl, i ∈ own.map (·.2))
    (hg : ∀ (s : Shared) (H : Hp) (C : Addr) (cl : List (Str × Addr)) (fp : List Addr), SG (X.blk s H scope (compEnvC scope cl C X.env) fp) pin sl tg g fg) (ht : ∀ (s : Shared) (H : Hp) (C : Addr) (cl : List (Str × Addr)) (fp : List Addr), STL (X.blk s H scope (compEnvC scope cl C X.env) fp) pin ifs tt ft)
    (he : ∀ (s : Shared) (H : Hp) (C : Addr) (cl : List (Str × Addr)) (fp : List Addr), SE (X.blk s H scope (compEnvC scope cl C X.env) fp) pin elt te fe)
    (hy : X.N[i]? = some y := by rfl) (hyl : X.env.scope.names.lookup y = some .local := by rfl) (hsw : swapsWith (.ListComp elt [⟨tg, iter, ifs, 0⟩] scope pos) (some (.Name y py)) spos.line X.env = pure true := by exact sw_true rfl rfl rfl (by decide +kernel)) (hs : ∀ x, foldedSetIterable iter X.env x = pure x := by intro _; rfl) :
    SS X pin (.Assign [.Name y py] (.ListComp elt [⟨tg, iter, ifs, 0⟩] scope pos) spos) (tAsg (tLc wi g tt te (own.map (·.2))) (gName i)) (fAsg (fLc (own.map (·.2)) fi fg ft fe) (gN i)) :=
  ⟨ps_setLc hc hN hy hyl hsw hi.pe ok (fun s H C cl fp => (hg s H C cl fp).pe) (fun s H C cl fp => (ht s H C cl fp).pe) (fun s H C cl fp => (he s H C cl fp).pe) hs,
   rs_asg (re_lc hi.rd (hg X.s_0 X.H_0 0 [] []).rd (ht X.s_0 X.H_0 0 [] []).rd (he X.s_0 X.H_0 0 [] []).rd hsl hp) (rgt_name hpi)⟩
end
end Qy
set_option Elab.async false
set_option linter.all false
set_option maxRecDepth 100000
set_option maxHeartbeats 400000
/-! A def's promise where no repr is under way around it (guards told): for the reprs of lists. -/
namespace Qy
open PySem PySem.Spec PyProof.Rows L2
structure FnG (P : Program) (w : World) (K : PySem.W.Frag) (mg : Str → Option Value) (base : Heap) (CX : CXT) (k : Nat) (f : Addr) (fd : FuncData) (ps : List Str) (sp : Sp) : Prop where
  len : ∀ vs H Q E, sp vs H Q E → vs.length = ps.length
  run : ∀ (A : Around) (out : List Env) (z : Shared) (H : Hp) (args : Args) (us : List Value) (vs : List V) (Q : VK) (E : XK), A.guards = some [] → Room k A → Env0 P w K mg base A out z H → BindsTo z fd args (ps.zip us) → Vals vs us → sp vs H Q E → codeAny (model P w) A (.call (.ref f) args) (CR CX out P w H z Q E) z
section
variable {P : Program} {w : World} {K : PySem.W.Frag} {mg : Str → Option Value} {base : Heap} {CX : CXT}
theorem fnG_of {k : Nat} {f : Addr} {nm qual : Str} {pa : Arguments} {body : List Stmt} {sc : Scope} {dV kV doc pm cdv ct oc : Value} {an od : Option Addr} {osl : Array (Option Value)} {N ps : List Str} {sp : Sp}
    (lk : K.lookup f = some ⟨oc, od, .func (PySem.W.fnOf nm qual pa body sc dV kV doc pm an cdv ct), osl⟩) (hcd : PySem.W.codeIn K cdv qual = true) (Sc : FnScope N ps sc) (len : ∀ vs H Q E, sp vs H Q E → vs.length = ps.length)
    (hb0 : ∀ (A : Around) (out : List Env) (z : Shared) (H : Hp) (vs : List V) (Q : VK) (E : XK), A.guards = some [] → Room k (A.deeper (envOfC qual sc z.heap.objs.size f cdv)) → sp vs H Q E →
      ∃ t, PSs (cxOf CX P w K mg base N qual sc f cdv A out z H E) body t ∧ t { nx := fun _ G => Q .non G, rt := Q } (L2.start N vs) H) :
    FnG P w K mg base CX (k + 1) f (PySem.W.fnOf nm qual pa body sc dV kV doc pm an cdv ct) ps sp := by
  refine ⟨len, fun A out z H args us vs Q E gd hr e0 hb r hsp => ?_⟩
  have old : ∀ b o, base.get? b = some o → z.heap.get? b = some o := fun b o e => (e0.bs b o e).1
  have KX : K.In z.heap := e0.mod.kin.keeps old
  have kinds : ∀ y ∈ ps.zip us, sc.names.lookup y.1 = some .local ∨ (sc.names.lookup y.1 = some .cell ∧ ((cellsFrom (z.heap.objs.size + 1) sc.names []).lookup y.1).isSome = true) := fun ⟨n, v⟩ hy =>
    (Sc.par n (List.of_mem_zip hy).1).elim .inl fun q => .inr ⟨q, PySem.W.cellsFrom_some _ _ _ (.inl q)⟩
  refine codeAny_call_function hr.depth (KX _ _ lk) rfl Sc.co Sc.gen rfl (PySem.W.codeRec_of KX hcd) (hb _ _ _ _ (wpAny_newFunctionEnv_cells Sc.kind kinds fun env he z1 x => ?_))
  subst he
  refine ⟨(e0.mod.nolimit.keeps old).keeps x.toInCall.keep, codeAny_func ?_⟩
  obtain ⟨t, ht, hq⟩ := hb0 A out z H vs Q E gd (hr.deeper _) hsp
  have I : Inv (cxOf CX P w K mg base N qual sc f cdv A out z H E) [] (L2.start N vs) H z1 := inv_start Sc hr.hd e0 (len _ _ _ _ hsp) r x
  refine wpAny_mono (ht.run [] z1 (L2.start N vs) H _ I hq) (fun fl z2 hs => ?_) fun e z2 hs => hs
  cases fl with
  | ret u => obtain ⟨v, s', G, J, rv, q⟩ := hs; exact ⟨v, G, J.os, J.bare, J.base, J.hok, rv, q⟩
  | next => obtain ⟨s', G, J, q⟩ := hs; exact ⟨V.non, G, J.os, J.bare, J.base, J.hok, rfl, q⟩
  | brk => obtain ⟨_, _, _, q⟩ := hs; exact q.elim
  | cont => obtain ⟨_, _, _, q⟩ := hs; exact q.elim
end
section
variable {X : Cx} {CX : CXT} {k : Nat} {f : Addr} {fd : FuncData} {ps ks : List Str} {sp : Sp} {E : XK} {x : Str} {p pos : Pos} {e : Expr} {es : List Expr} {kws : List Keyword} {t tk : TA} {pins : List (Addr × Obj)} {σ : L2.St} {H : Hp} {z : Shared} {Q : VK}
theorem run_g {args : Args} {us : List Value} {vs : List V} (F : FnG X.prog X.w X.K X.mg X.base CX k f fd ps sp) (gd : X.A.guards = some []) (hr : Room k X.A) (hx : Passes CX X E) (I : Inv X pins σ H z) (hb : BindsTo z fd args (ps.zip us)) (r : Vals vs us) (h : sp vs H Q E) :
    codeAny (model X.prog X.w) X.A (.call (.ref f) args) (fun rr z2 => match rr with | .ok (.ret u) => EP X pins σ Q u z2 | .ok _ => False | .error er => X.xe er z2) z := by
  refine codeAny_mono (F.run X.A X.stack z H args us vs Q E gd hr I.env0 hb r h) fun rr z2 hq => ?_
  cases rr with
  | error er => exact hx pins σ H z er z2 I hq
  | ok fl => cases fl with
    | ret u => exact I.after hq
    | next => exact hq.elim
    | brk => exact hq.elim
    | cont => exact hq.elim
theorem wp_g {g : Addr} {us : List Value} {kw : List (Str × Value)} (h : codeAny (model X.prog X.w) X.A (.call (.ref g) ⟨us, kw⟩) (fun rr z2 => match rr with | .ok (.ret u) => EP X pins σ Q u z2 | .ok _ => False | .error er => X.xe er z2) z) :
    wpAny (model X.prog X.w) X.A (call (.ref g) us kw) (EP X pins σ Q) X.xe z := wpAny_call (codeAny_mono h fun rr z2 q => by
  cases rr with
  | error er => exact q
  | ok fl => cases fl with
    | ret u => exact q
    | next => exact q.elim
    | brk => exact q.elim
    | cont => exact q.elim)
theorem pe_callG (F : FnG X.prog X.w X.K X.mg X.base CX k f fd ps sp) (gd : X.A.guards = some []) (hr : Room k X.A) (hg : Gl X x) (hm : X.mg x = some (.ref f)) (hk : PySem.W.keepIn X.K (.ref f) = true) (hb : Binds X.K fd ps []) (hx : Passes CX X E) (ha : PA X (e :: es) t)
    (hdb : (x == ("__debug__" : Str)) = false) (he : starEach (e :: es) X.env = (false, eval e X.env) :: starEach es X.env) (hpl : (backTo pos (starEach es X.env)).any (·.1) = false) : PE X (.Call (.Name x p) (e :: es) [] pos) (tCall sp [] E t) := by
  refine ⟨fun pins z σ H Q I h => wpAny_Call_Name_kw (ld_glob I hg hm ?_ hdb)⟩
  refine PySem.W.callWith_K (h₀ := X.base) I.ok.mod.kin hk (thn (ha.run pos pins z σ H _ I h) fun us z1 ⟨vs, H1, I1, r, q⟩ => ⟨I1.kIn, wp_g ?_⟩) he hpl
  have q : sp (vs ++ []) H1 Q E := q
  rw [List.append_nil] at q
  have hl : us.length = ps.length := by rw [← r.length]; exact F.len _ _ _ _ q
  have hb1 := hb z1 us I1.kIn (by simpa using hl)
  rw [List.append_nil] at hb1
  exact run_g F gd hr hx I1 hb1 r q
theorem pe_callG0 (F : FnG X.prog X.w X.K X.mg X.base CX k f fd ps sp) (gd : X.A.guards = some []) (hr : Room k X.A) (hg : Gl X x) (hm : X.mg x = some (.ref f)) (hk : PySem.W.keepIn X.K (.ref f) = true) (hb : Binds X.K fd ps []) (hx : Passes CX X E)
    (hdb : (x == ("__debug__" : Str)) = false) : PE X (.Call (.Name x p) [] [] pos) (tCall sp [] E tNil) := by
  refine ⟨fun pins z σ H Q I h => wpAny_Call_Name_kw (ld_glob I hg hm (PySem.W.callWith_K0 I.kIn hk (wp_g ?_)) hdb)⟩
  have q : sp [] H Q E := h
  have hb1 := hb z [] I.kIn (by have := F.len _ _ _ _ q; simpa using this)
  exact run_g (us := []) F gd hr hx I hb1 .nil q
theorem pe_callKG {g : List Value → List Value → List Value} {gV : List V → List V → List V} (F : FnG X.prog X.w X.K X.mg X.base CX k f fd ps sp) (gd : X.A.guards = some []) (hr : Room k X.A) (hg : Gl X x) (hm : X.mg x = some (.ref f)) (hk : PySem.W.keepIn X.K (.ref f) = true) (hb : KBinds X.K fd ps ks g gV) (hx : Passes CX X E)
    (hkw : PK X kws tk) (hall : (backToKw pos (keywordEach kws X.env)).all (·.1.isSome) = true) (hks : (backToKw pos (keywordEach kws X.env)).filterMap (·.1) = ks) (hdb : (x == ("__debug__" : Str)) = false)
    (hpl : ((backTo pos (starEach [] X.env)).any (·.1) || (backToKw pos (keywordEach kws X.env)).any (·.1.isNone)) = false) : PE X (.Call (.Name x p) [] kws pos) (tCallK sp gV E tNil tk) := by
  refine ⟨fun pins z σ H Q I h => wpAny_Call_Name_kw (ld_glob I hg hm ?_ hdb)⟩
  refine PySem.W.callWith_KW0 (h₀ := X.base) I.ok.mod.kin hk hall (thn (hkw.run pos pins z σ H _ I h) fun ws z2 ⟨zs, H2, I2, rz, q2⟩ => ⟨I2.kIn, ?_⟩) hpl
  rw [hks]
  have r2 := hb.rel (.nil : Vals [] []) rz
  have hl : (g [] ws).length = ps.length := by rw [← r2.length]; exact F.len _ _ _ _ q2
  exact wp_g (run_g F gd hr hx I2 (hb.to z2 [] ws I2.kIn hl) r2 q2)
end
end Qy
set_option Elab.async false
set_option linter.all false
set_option maxRecDepth 100000
set_option maxHeartbeats 400000
namespace Qy
open PySem PySem.Spec PyProof.Rows L2
/-- what a def makes of its arguments: its outcome, and what is given back of each -/
abbrev Mir := List OD → Option (OD × List (Option OD))
def spM (K : PySem.W.Frag) (n : Nat) (m : Mir) : Sp := fun vs H Q _ => ∃ S F ods r outs, vs.length = n ∧ ods.length = n ∧ outs.length = n ∧ Own K S H [] (vs.zip ods ++ F) ∧ m ods = some (r, outs) ∧
  ∀ v S' H', Ex S S' → Own K S' H' [] ((v, r) :: (its outs (vs.map some) ++ F)) → Q v H'
structure Cal (P : Program) (w : World) (K : PySem.W.Frag) (mg : Str → Option Value) (base : Heap) (x : Str) (st : Stmt) (k : Nat) (ps : List Str) (m : Mir) : Prop where
  ex : ∃ f fd, mg x = some (.ref f) ∧ FunD K x x (defArgs st) (defBody st) (defScope st) [] [] f fd ∧ FnG P w K mg base CX0 k f fd ps (spM K ps.length m)
/-- how a def's text binds -/
def BindT (x : Str) (st : Stmt) (ps : List Str) : Prop := ∀ (kV doc pm : Value) (an : Option Addr) (cdv ct : Value) (us : List Value), us.length = ps.length → bindArgs (PySem.W.fnOf x x (defArgs st) (defBody st) (defScope st) .none kV doc pm an cdv ct) ⟨us, []⟩ = pure (ps.zip us)
structure KBindT (x : Str) (st : Stmt) (ps ks : List Str) (g : List Value → List Value → List Value) (gV : List V → List V → List V) : Prop where
  to : ∀ (kV doc pm : Value) (an : Option Addr) (cdv ct : Value) (us ws : List Value), (g us ws).length = ps.length → bindArgs (PySem.W.fnOf x x (defArgs st) (defBody st) (defScope st) .none kV doc pm an cdv ct) ⟨us, ks.zip ws⟩ = pure (ps.zip (g us ws))
  rel : ∀ {vs : List V} {us : List Value} {zs : List V} {ws : List Value}, Vals vs us → Vals zs ws → Vals (gV vs zs) (g us ws)
section
variable {X : Cx} {pin : List (Option V)} {K : PySem.W.Frag} {e a b : Expr} {pos p : Pos}
/-! ### arguments: frozen, or lent out of a slot -/
def RB (K : PySem.W.Frag) (pin : List (Option V)) (t : TA) (f : Fa) (bk : List (Option Nat)) : Prop := ∀ S H T ρ σ F Q ods ρ', Sat K pin S H T ρ σ F → f ρ = some (ods, ρ') →
  (∀ vs S' H', Ex S S' → vs.length = ods.length → (∀ (n i : Nat), bk[n]? = some (some i) → ∃ v, vs[n]? = some v ∧ σ[i]? = some (some v)) → Sat K pin S' H' (vs.zip ods ++ T) ρ' σ F → Q vs H') → t σ H Q
structure SRB (X : Cx) (pin : List (Option V)) (es : List Expr) (t : TA) (f : Fa) (bk : List (Option Nat)) : Prop where
  pe : PA X es t
  rd : RB X.K pin t f bk
theorem rb_nil : RB K pin tNil fNil [] := by
  intro S H T ρ σ F Q ods ρ' w e k
  cases e
  exact k [] S H (ex_refl S) rfl (fun n i h => by simp at h) w
theorem rb_cons {t : TE} {f : Fe} {r : TA} {fr : Fa} {bk : List (Option Nat)} (h : RE K pin t f) (hr : RB K pin r fr bk) : RB K pin (tCons t r) (fCons f fr) (none :: bk) := by
  intro S H T ρ σ F Q od ρ' w e k
  unfold fCons at e
  split at e
  · rename_i o ρ1 q1
    split at e
    · rename_i os ρ2 q2
      cases e
      refine h S H T ρ σ F _ o ρ1 w q1 fun v S1 H1 e1 w1 => ?_
      refine hr S1 H1 _ ρ1 σ F _ os ρ' w1 q2 fun vs S2 H2 e2 hl hb w2 => ?_
      refine k (v :: vs) S2 H2 (ex_trans e1 e2) (by simp [hl]) (fun n i h => ?_) (w2.with (w2.own.perm ?_))
      · cases n with
        | zero => simp at h
        | succ n => simpa using hb n i (by simpa using h)
      · simp only [List.zip_cons_cons, List.cons_append, List.append_assoc]
        exact List.perm_middle
    · cases e
  · cases e
/-- an argument lent: its slot is emptied behind the other arguments -/
def fLend (i : Nat) (r : Fa) : Fa := fun ρ => match ρ[i]? with
  | some (some _) => (match r ρ with
    | some (os, ρ1) => (match ρ1[i]? with
      | some (some o) => some (o :: os, ρ1.set i none)
      | _ => none)
    | none => none)
  | _ => none
theorem rb_lend {i : Nat} {r : TA} {fr : Fa} {bk : List (Option Nat)} (hr : RB K pin r fr bk) : RB K pin (tCons (tVar i) r) (fLend i fr) (some i :: bk) := by
  intro S H T ρ σ F Q od ρ' w e k
  unfold fLend at e
  split at e
  · rename_i o0 ho0
    obtain ⟨v, hv⟩ := w.wf i o0 ho0
    split at e
    · rename_i os ρ1 q2
      split at e
      · rename_i o ho
        cases e
        refine ⟨v, hv, ?_⟩
        refine hr S H _ _ σ F _ os ρ1 w q2 fun vs S2 H2 e2 hl hb w2 => ?_
        obtain ⟨v', hv', w3⟩ := w2.take ho
        rw [hv] at hv'
        cases hv'
        refine k (v :: vs) S2 H2 e2 (by simp [hl]) (fun n j h => ?_) (w3.with (w3.own.perm ?_))
        · cases n with
          | zero => cases (show some (some i) = some (some j) by simpa using h); exact ⟨v, by simp, hv⟩
          | succ n => simpa using hb n j (by simpa using h)
        · simp only [List.zip_cons_cons, List.cons_append, List.append_assoc]
          exact .refl _
      · cases e
    · cases e
  · cases e
theorem len_lend {i : Nat} {fr : Fa} {n : Nat} (h : ∀ ρ os ρ', fr ρ = some (os, ρ') → os.length = n) : ∀ ρ os ρ', fLend i fr ρ = some (os, ρ') → os.length = n + 1 := fun ρ os ρ' q => by
  unfold fLend at q
  split at q
  · split at q
    · rename_i q2
      split at q
      · cases q
        simp [h _ _ _ q2]
      · cases q
    · cases q
  · cases q
theorem sb0_nil : SRB X pin [] tNil fNil [] := ⟨pa_nil, rb_nil⟩
theorem sb0_cons {t : TE} {f : Fe} {es : List Expr} {r : TA} {fr : Fa} {bk : List (Option Nat)} (h : SE X pin e t f) (hr : SRB X pin es r fr bk) (hs : starEach (e :: es) X.env = (false, eval e X.env) :: starEach es X.env := by rfl) : SRB X pin (e :: es) (tCons t r) (fCons f fr) (none :: bk) :=
  ⟨pa_cons h.pe hr.pe hs, rb_cons h.rd hr.rd⟩
theorem sb0_lend (i : Nat) {x : Str} {es : List Expr} {r : TA} {fr : Fa} {bk : List (Option Nat)} (hr : SRB X pin es r fr bk) (hN : X.N[i]? = some x := by rfl) (hv : Vis X.env.scope x := by first | exact Or.inl rfl | exact Or.inr (Or.inl rfl) | exact Or.inr (Or.inr rfl)) (hd : (x == ("__debug__" : Str)) = false := by decide)
    (hcd : (x == ("__classdict__" : Str)) = false := by decide) (hs : starEach (.Name x p :: es) X.env = (false, eval (.Name x p) X.env) :: starEach es X.env := by rfl) : SRB X pin (.Name x p :: es) (tCons (tVar i) r) (fLend i fr) (some i :: bk) :=
  ⟨pa_cons (pe_var hN hv hd hcd) hr.pe hs, rb_lend hr.rd⟩
/-! ### the call -/
def putBack : List (Option Nat) → List (Option OD) → Rho → Rho
  | some i :: bk, some o :: outs, ρ => putBack bk outs (ρ.set i (some o))
  | some _ :: bk, none :: outs, ρ => putBack bk outs ρ
  | none :: bk, _ :: outs, ρ => putBack bk outs ρ
  | _, _, ρ => ρ
def fCall (m : Mir) (f : Fa) (bk : List (Option Nat)) : Fe := fun ρ => match f ρ with
  | none => none
  | some (ods, ρ1) => match m ods with
    | none => none
    | some (r, outs) => if outs.length = ods.length then some (r, putBack bk outs ρ1) else none
theorem sat_back {S H : Hp} {T F : List It} {σ : L2.St} : ∀ (bk : List (Option Nat)) (outs : List (Option OD)) (vs : List V) (ρ : Rho), vs.length = outs.length → (∀ (n i : Nat), bk[n]? = some (some i) → ∃ v, vs[n]? = some v ∧ σ[i]? = some (some v)) →
    Sat K pin S H (its outs (vs.map some) ++ T) ρ σ F → Sat K pin S H T (putBack bk outs ρ) σ F
  | [], outs, vs, ρ, _, _, w => by
    have h : putBack [] outs ρ = ρ := by cases outs <;> rfl
    rw [h]
    refine w.with ?_
    have := w.own
    rw [List.append_assoc] at this
    exact this.drop
  | bo :: bk, [], vs, ρ, hl, _, w => by
    have hv : vs = [] := by simpa using hl
    subst hv
    have h : putBack (bo :: bk) [] ρ = ρ := by cases bo <;> rfl
    rw [h]
    exact w
  | bo :: bk, c :: outs, [], ρ, hl, _, _ => by simp at hl
  | none :: bk, c :: outs, v :: vs, ρ, hl, hb, w => by
    refine sat_back bk outs vs ρ (by simpa using hl) (fun n i h => by simpa using hb (n + 1) i (by simpa using h)) ?_
    cases c with
    | none => exact w
    | some o => exact w.tl
  | some i :: bk, none :: outs, v :: vs, ρ, hl, hb, w =>
    sat_back bk outs vs ρ (by simpa using hl) (fun n i h => by simpa using hb (n + 1) i (by simpa using h)) w
  | some i :: bk, some o :: outs, v :: vs, ρ, hl, hb, w => by
    refine sat_back bk outs vs _ (by simpa using hl) (fun n i h => by simpa using hb (n + 1) i (by simpa using h)) ?_
    obtain ⟨u, hu, hs⟩ := hb 0 i (by simp)
    have hu' : v = u := by simpa using hu
    subst hu'
    exact Sat.back (show Sat K pin S H ((v, o) :: (its outs (vs.map some) ++ T)) ρ σ F from w) hs
theorem re_call {t : TA} {f : Fa} {bk : List (Option Nat)} {m : Mir} {n : Nat} (h : RB K pin t f bk) (hn : ∀ ρ os ρ', f ρ = some (os, ρ') → os.length = n) : RE K pin (tCall (spM K n m) [] E0 t) (fCall m f bk) := by
  intro S H T ρ σ F Q od ρ' w e k
  unfold fCall at e
  split at e
  · cases e
  · rename_i ods ρ1 q1
    split at e
    · cases e
    · rename_i r outs q2
      split at e
      · rename_i hl2
        cases e
        refine h S H T ρ σ F _ _ _ w q1 fun vs S' H' x hl hb w' => ?_
        have hn' := hn _ _ _ q1
        refine ⟨S', T ++ (its ρ1 σ ++ F), ods, od, outs, by simp; omega, hn', by omega, ?_, q2, fun v S2 H2 e2 o2 => ?_⟩
        · have := w'.own
          rw [List.append_assoc] at this
          simpa using this
        · have w2 : Sat K pin S2 H2 (its outs (vs.map some) ++ ((v, od) :: T)) ρ1 σ F := w'.with (by
            refine o2.perm ?_
            simp only [List.append_nil, List.append_assoc, List.cons_append]
            exact List.perm_middle.symm)
          exact k v S2 H2 (ex_trans x e2) (sat_back bk outs vs ρ1 (by omega) hb w2)
      · cases e
theorem se_call {x : Str} {st : Stmt} {k : Nat} {ps : List Str} {m : Mir} {es : List Expr} {t : TA} {f : Fa} {bk : List (Option Nat)} (c : Cal X.prog X.w X.K X.mg X.base x st k ps m) (gd : X.A.guards = some []) (hr : Room k X.A) (hb : BindT x st ps) (ha : SRB X pin (e :: es) t f bk) (hn : ∀ ρ os ρ', f ρ = some (os, ρ') → os.length = ps.length)
    (hg : Gl X x := by rfl) (hdb : (x == ("__debug__" : Str)) = false := by decide) (he : starEach (e :: es) X.env = (false, eval e X.env) :: starEach es X.env := by rfl) (hpl : (backTo pos (starEach es X.env)).any (·.1) = false := by rfl)
    (hK : X.K = K := by rfl) : SE X pin (.Call (.Name x p) (e :: es) [] pos) (tCall (spM K ps.length m) [] E0 t) (fCall m f bk) := by
  subst hK
  obtain ⟨fa, fd, hm, F, ok⟩ := c.ex
  exact ⟨pe_callG ok gd hr hg hm F.kp (F.bindsN hb) pass0 ha.pe hdb he hpl, re_call ha.rd hn⟩
/-! ### by keywords alone -/
structure SKw (X : Cx) (pin : List (Option V)) (kws : List Keyword) (t : TA) (f : Fa) (bk : List (Option Nat)) : Prop where
  pe : PK X kws t
  rd : RB X.K pin t f bk
theorem sk_nil : SKw X pin [] tNil fNil [] := ⟨pk_nil, rb_nil⟩
theorem sk_cons {t : TE} {f : Fe} {kws : List Keyword} {r : TA} {fr : Fa} {bk : List (Option Nat)} {nm : Option Str} {kpos : Pos} (h : SE X pin e t f) (hr : SKw X pin kws r fr bk) : SKw X pin (⟨nm, e, kpos⟩ :: kws) (tCons t r) (fCons f fr) (none :: bk) := ⟨pk_cons h.pe hr.pe, rb_cons h.rd hr.rd⟩
end
end Qy
set_option Elab.async false
set_option linter.all false
set_option maxRecDepth 100000
set_option maxHeartbeats 400000
namespace Qy
open PySem PySem.Spec PyProof.Rows L2
section
variable {X : Cx} {pin : List (Option V)} {K : PySem.W.Frag} {e a b : Expr} {pos p : Pos}
/-! ### keywords in another sequence -/
def pick {α : Type} (π : List Nat) (l : List α) : List α := π.filterMap fun i => l[i]?
theorem pick_range {α : Type} (l : List α) : pick (List.range l.length) l = l := by
  unfold pick
  apply List.ext_getElem?
  intro i
  have : (List.range l.length).filterMap (fun i => l[i]?) = l := by
    have h : ∀ (n : Nat), n ≤ l.length → (List.range n).filterMap (fun i => l[i]?) = l.take n := by
      intro n
      induction n with
      | zero => intro _; simp
      | succ n ih =>
        intro hn
        rw [List.range_succ, List.filterMap_append, ih (by omega)]
        have hl : n < l.length := by omega
        rw [List.take_succ, List.getElem?_eq_getElem hl]
        simp only [List.filterMap_cons, List.getElem?_eq_getElem hl, List.filterMap_nil, Option.toList]
    rw [h l.length (Nat.le_refl _), List.take_length]
  rw [this]
theorem pick_perm {α : Type} {π : List Nat} {l : List α} (h : π.Perm (List.range l.length)) : (pick π l).Perm l := by
  have := h.filterMap fun i => l[i]?
  exact this.trans (by rw [show (List.range l.length).filterMap (fun i => l[i]?) = l from pick_range l])
theorem pick_zip {α β : Type} (π : List Nat) : ∀ (a : List α) (b : List β), a.length = b.length → (pick π a).zip (pick π b) = pick π (a.zip b) := by
  intro a b hl
  unfold pick
  induction π with
  | nil => rfl
  | cons i π ih =>
    by_cases hi : i < a.length
    · have hb : i < b.length := by omega
      simp only [List.filterMap_cons, List.getElem?_eq_getElem hi, List.getElem?_eq_getElem hb]
      have hz : (a.zip b)[i]? = some (a[i], b[i]) := by rw [List.getElem?_zip_eq_some]; exact ⟨List.getElem?_eq_getElem hi, List.getElem?_eq_getElem hb⟩
      rw [hz]
      simp [ih]
    · have h1 : a[i]? = none := List.getElem?_eq_none (by omega)
      have h2 : b[i]? = none := List.getElem?_eq_none (by omega)
      have h3 : (a.zip b)[i]? = none := List.getElem?_eq_none (by simp; omega)
      simp only [List.filterMap_cons, h1, h2, h3]
      exact ih
def gp {α : Type} (n : Nat) (π : List Nat) : List α → List α → List α := fun vs zs => match vs with
  | [] => if zs.length = n then pick π zs else []
  | _ => []
theorem vals_pick {vs : List V} {us : List Value} (r : Vals vs us) (π : List Nat) : Vals (pick π vs) (pick π us) := by
  unfold pick
  induction π with
  | nil => exact .nil
  | cons i π ih =>
    simp only [List.filterMap_cons]
    cases h : vs[i]? with
    | none => rw [r.none_of h]; exact ih
    | some v =>
      obtain ⟨u, hu, ru⟩ := r.get h
      rw [hu]
      exact .cons ru ih
theorem kb_mk {x : Str} {st : Stmt} {ps ks : List Str} {n : Nat} {π : List Nat} (hps : 0 < ps.length) (h : ∀ (kV doc pm : Value) (an : Option Addr) (cdv ct : Value) (ws : List Value), ws.length = n → bindArgs (PySem.W.fnOf x x (defArgs st) (defBody st) (defScope st) .none kV doc pm an cdv ct) ⟨[], ks.zip ws⟩ = pure (ps.zip (pick π ws))) :
    KBindT x st ps ks (gp n π) (gp n π) where
  to := fun kV doc pm an cdv ct us ws hl => by
    cases us with
    | cons _ _ => unfold gp at hl; simp only [List.length_nil] at hl; omega
    | nil =>
      by_cases hw : ws.length = n
      · simp only [gp, if_pos hw]
        exact h kV doc pm an cdv ct ws hw
      · simp only [gp, if_neg hw, List.length_nil] at hl; omega
  rel := fun {vs us zs ws} r1 r2 => by
    cases r1 with
    | nil =>
      simp only [gp, r2.length]
      split
      · exact vals_pick r2 π
      · exact .nil
    | cons _ _ => exact .nil
theorem KBindT.k {K : PySem.W.Frag} {x : Str} {st : Stmt} {ps ks : List Str} {g : List Value → List Value → List Value} {gV : List V → List V → List V} {f : Addr} {fd : FuncData} {kws : List (Str × V)} (h : KBindT x st ps ks g gV) (F : FunD K x x (defArgs st) (defBody st) (defScope st) [] kws f fd) : KBinds K fd ps ks g gV := by
  obtain ⟨oc, od, dV, kV, doc, pm, an, cdv, ct, osl, rfl, lk, hcd, hD, hK⟩ := F.ex
  rcases hD with ⟨_, rfl⟩ | ⟨e, _⟩
  · exact ⟨fun s us ws _ hl => .of_eq (h.to kV doc pm an cdv ct us ws hl), h.rel⟩
  · exact absurd rfl e
def fCallK (m : Mir) (π : List Nat) (f : Fa) : Fe := fun ρ => match f ρ with
  | none => none
  | some (ods, ρ1) => match m (pick π ods) with
    | none => none
    | some (r, outs) => if outs.length = ods.length then some (r, ρ1) else none
theorem re_callK {t : TA} {f : Fa} {bk : List (Option Nat)} {m : Mir} {n : Nat} {π : List Nat} (hπ : π.Perm (List.range n)) (h : RB K pin t f bk) (hn : ∀ ρ os ρ', f ρ = some (os, ρ') → os.length = n) : RE K pin (tCallK (spM K n m) (gp n π) E0 tNil t) (fCallK m π f) := by
  intro S H T ρ σ F Q od ρ' w e k
  unfold fCallK at e
  split at e
  · cases e
  · rename_i ods ρ1 q1
    split at e
    · cases e
    · rename_i r outs q2
      split at e
      · rename_i hl2
        cases e
        show t σ H _
        refine h S H T ρ σ F _ _ _ w q1 fun vs S' H' x hl hb w' => ?_
        have hn' := hn _ _ _ q1
        have hv : vs.length = n := by omega
        have lp : ∀ {α : Type} (l : List α), l.length = n → (pick π l).length = n := fun l hh => by
          have := (pick_perm (l := l) (π := π) (by rw [hh]; exact hπ)).length_eq
          omega
        refine ⟨S', T ++ (its ρ' σ ++ F), pick π ods, od, outs, ?_, lp ods hn', by omega, ?_, q2, fun v S2 H2 e2 o2 => ?_⟩
        · simp only [gp, if_pos hv]; exact lp vs hv
        · have ow := w'.own
          rw [List.append_assoc] at ow
          simp only [gp, if_pos hv]
          rw [pick_zip π vs ods (by omega)]
          refine ow.perm ((pick_perm ?_).symm.append_right _)
          have : (vs.zip ods).length = n := by simp; omega
          rw [this]; exact hπ
        · refine k v S2 H2 (ex_trans x e2) (w'.with (T' := (v, od) :: T) ?_)
          have o3 := o2.perm (List.perm_middle (a := (v, od)) (l₁ := its outs ((gp n π [] vs).map some)) (l₂ := T ++ (its ρ' σ ++ F))).symm
          exact o3.drop
      · cases e
theorem se_callK {x : Str} {st : Stmt} {k : Nat} {ps ks : List Str} {m : Mir} {kws : List Keyword} {t : TA} {f : Fa} {bk : List (Option Nat)} {π : List Nat} (c : Cal X.prog X.w X.K X.mg X.base x st k ps m) (gd : X.A.guards = some []) (hr : Room k X.A) (hb : KBindT x st ps ks (gp ps.length π) (gp ps.length π)) (ha : SKw X pin kws t f bk) (hn : ∀ ρ os ρ', f ρ = some (os, ρ') → os.length = ps.length)
    (hπ : π.Perm (List.range ps.length)) (hall : (backToKw pos (keywordEach kws X.env)).all (·.1.isSome) = true := by rfl) (hks : (backToKw pos (keywordEach kws X.env)).filterMap (·.1) = ks := by rfl) (hg : Gl X x := by rfl) (hdb : (x == ("__debug__" : Str)) = false := by decide)
    (hpl : ((backTo pos (starEach [] X.env)).any (·.1) || (backToKw pos (keywordEach kws X.env)).any (·.1.isNone)) = false := by rfl)
    (hK : X.K = K := by rfl) : SE X pin (.Call (.Name x p) [] kws pos) (tCallK (spM K ps.length m) (gp ps.length π) E0 tNil t) (fCallK m π f) := by
  subst hK
  obtain ⟨fa, fd, hm, F, ok⟩ := c.ex
  exact ⟨pe_callKG ok gd hr hg hm F.kp (hb.k F) pass0 ha.pe hall hks hdb hpl, re_callK hπ ha.rd hn⟩

/-! ### a def -/
def rho0 (N : List Str) (ods : List OD) : Rho := ods.map some ++ List.replicate (N.length - ods.length) none
def outsOf : List Bool → Rho → List (Option OD)
  | true :: B, c :: ρ => c :: outsOf B ρ
  | false :: B, _ :: ρ => none :: outsOf B ρ
  | _, _ => []
def pinOf : List Bool → List V → List (Option V)
  | true :: B, v :: vs => some v :: pinOf B vs
  | false :: B, _ :: vs => none :: pinOf B vs
  | _, _ => []
theorem its_none : ∀ (n : Nat) (σ : L2.St), its (List.replicate n none) σ = []
  | 0, σ => by cases σ <;> rfl
  | n + 1, [] => rfl
  | n + 1, b :: σ => by
    show its (none :: List.replicate n none) (b :: σ) = []
    cases b <;> exact its_none n σ
theorem its_start : ∀ (vs : List V) (ods : List OD) (n : Nat) (r : L2.St), vs.length = ods.length → its (ods.map some ++ List.replicate n none) (vs.map some ++ r) = vs.zip ods
  | [], [], n, r, _ => by simpa using its_none n r
  | v :: vs, o :: ods, n, r, h => by
    show (v, o) :: its (ods.map some ++ List.replicate n none) (vs.map some ++ r) = _
    rw [its_start vs ods n r (by simpa using h)]
    rfl
theorem pinOf_get : ∀ (B : List Bool) (vs : List V) (i : Nat) (v : V), (pinOf B vs)[i]? = some (some v) → vs[i]? = some v
  | true :: B, u :: vs, 0, v, h => by simpa [pinOf] using h
  | false :: B, u :: vs, 0, v, h => by simp [pinOf] at h
  | true :: B, u :: vs, i + 1, v, h => by simpa using pinOf_get B vs i v (by simpa [pinOf] using h)
  | false :: B, u :: vs, i + 1, v, h => by simpa using pinOf_get B vs i v (by simpa [pinOf] using h)
  | [], _, _, _, h => by simp [pinOf] at h
  | true :: _, [], _, _, h => by simp [pinOf] at h
  | false :: _, [], _, _, h => by simp [pinOf] at h
theorem pinOf_no : ∀ (B : List Bool) (vs : List V) (i : Nat), B[i]? ≠ some true → NoPin (pinOf B vs) i
  | true :: B, u :: vs, 0, h => by simp at h
  | false :: B, u :: vs, 0, h => .inr (by simp [pinOf])
  | true :: B, u :: vs, i + 1, h => by simpa [NoPin, pinOf] using pinOf_no B vs i (by simpa using h)
  | false :: B, u :: vs, i + 1, h => by simpa [NoPin, pinOf] using pinOf_no B vs i (by simpa using h)
  | [], _, _, _ => .inl (by simp [pinOf])
  | true :: _, [], _, _ => .inl (by simp [pinOf])
  | false :: _, [], _, _ => .inl (by simp [pinOf])
theorem its_outs : ∀ (B : List Bool) (ρ : Rho) (σ : L2.St) (vs : List V), (∀ (i : Nat) v, (pinOf B vs)[i]? = some (some v) → σ[i]? = some (some v)) → ∃ r, (its ρ σ).Perm (r ++ its (outsOf B ρ) (vs.map some))
  | [], ρ, σ, vs, _ => ⟨its ρ σ, by simp [outsOf, its]⟩
  | true :: B, [], σ, vs, _ => ⟨[], by simp [outsOf, its]⟩
  | false :: B, [], σ, vs, _ => ⟨[], by simp [outsOf, its]⟩
  | bb :: B, c :: ρ, σ, [], _ => ⟨its (c :: ρ) σ, by cases bb <;> simp [outsOf, its]⟩
  | false :: B, c :: ρ, [], v :: vs, h => ⟨[], by
      have : its (outsOf (false :: B) (c :: ρ)) ((v :: vs).map some) = its (outsOf B ρ) (vs.map some) := rfl
      obtain ⟨r, q⟩ := its_outs B ρ [] vs (fun i u z => by
        have := h (i + 1) u (by simpa [pinOf] using z)
        simp at this)
      have e0 : its ρ ([] : L2.St) = [] := by cases ρ with | nil => rfl | cons a b => cases a <;> rfl
      have e1 : its (c :: ρ) ([] : L2.St) = [] := by cases c <;> rfl
      rw [e0] at q
      rw [this, e1]
      have := q.length_eq
      simp only [List.length_nil, List.length_append] at this
      have z : its (outsOf B ρ) (vs.map some) = [] := List.eq_nil_of_length_eq_zero (by omega)
      rw [z]; exact .nil⟩
  | true :: B, c :: ρ, [], v :: vs, h => by
    have := h 0 v (by simp [pinOf])
    simp at this
  | false :: B, c :: ρ, s :: σ, v :: vs, h => by
    obtain ⟨r, q⟩ := its_outs B ρ σ vs (fun i u z => by simpa using h (i + 1) u (by simpa [pinOf] using z))
    cases c with
    | none => exact ⟨r, q⟩
    | some o =>
      cases s with
      | none => exact ⟨r, q⟩
      | some u => exact ⟨(u, o) :: r, q.cons _⟩
  | true :: B, c :: ρ, s :: σ, v :: vs, h => by
    have hs : s = some v := by simpa using h 0 v (by simp [pinOf])
    subst hs
    obtain ⟨r, q⟩ := its_outs B ρ σ vs (fun i u z => by simpa using h (i + 1) u (by simpa [pinOf] using z))
    cases c with
    | none => exact ⟨r, q⟩
    | some o => exact ⟨r, (q.cons (v, o)).trans List.perm_middle.symm⟩
theorem mk_fn {P : Program} {w : World} {mg : Str → Option Value} {base : Heap} {x qual : Str} {dvs : List V} {kws : List (Str × V)} {st : Stmt} {f : Addr} {fd : FuncData} {N ps : List Str} {k : Nat} {m : Mir} (F : FunD K x qual (defArgs st) (defBody st) (defScope st) dvs kws f fd) (Sc : FnScope N ps (defScope st)) (B : List Bool) (Fb : Nat → Fs)
    (hm : ∀ ods r outs, m ods = some (r, outs) → ods.length = ps.length → ∃ n ρ', (Fb n (rho0 N ods) = some (.rt r ρ') ∨ (Fb n (rho0 N ods) = some (.nx ρ') ∧ r = .st .non)) ∧ outs = outsOf B ρ')
    (hbody : ∀ n cdv A outer s H E pin, A.guards = some [] → Room k (A.deeper (envOfC qual (defScope st) s.heap.objs.size f cdv)) → (∀ i, B[i]? ≠ some true → NoPin pin i) → ∃ t, SB (cxOf CX0 P w K mg base N qual (defScope st) f cdv A outer s H E).nox pin (defBody st) t (Fb n)) :
    FnG P w K mg base CX0 (k + 1) f fd ps (spM K ps.length m) := by
  obtain ⟨oc, od, dV, kV, doc, pm, an, cdv, ct, osl, rfl, lk, hcd, _, _⟩ := F.ex
  refine fnG_of lk hcd Sc (fun vs H Q E h => ?_) (fun A outer s H vs Q E gd hr h => ?_)
  · obtain ⟨S, FF, ods, r, outs, h1, _⟩ := h
    exact h1
  · obtain ⟨S, FF, ods, r, outs, h1, h2, h3, ow, hmm, kk⟩ := h
    obtain ⟨n, ρ', hres, ho⟩ := hm ods r outs hmm h2
    obtain ⟨t, sb⟩ := hbody n cdv A outer s H E (pinOf B vs) gd hr (pinOf_no B vs)
    have hN : ps.length ≤ N.length := by
      have := congrArg List.length Sc.pre
      simp at this
      omega
    have sat0 : Sat K (pinOf B vs) S H [] (rho0 N ods) (L2.start N vs) FF := by
      refine ⟨?_, fun i o h => ?_, ?_, fun i v h => ?_⟩
      · show Own K S H [] (its (rho0 N ods) (L2.start N vs) ++ FF)
        unfold rho0 L2.start
        rw [its_start vs ods _ _ (by omega)]
        exact ow
      · unfold rho0 at h
        have hi : i < ods.length := by
          by_cases hi : i < ods.length
          · exact hi
          · rw [List.getElem?_append_right (by simpa using hi)] at h
            have := List.mem_of_getElem? h
            rw [List.mem_replicate] at this
            cases this.2
        unfold L2.start
        refine ⟨vs[i]'(by omega), ?_⟩
        rw [List.getElem?_append_left (by simp; omega)]
        simp [show i < vs.length by omega]
      · simp [rho0, L2.start, h1, h2]
      · have := pinOf_get B vs i v h
        unfold L2.start
        have hi := (List.getElem?_eq_some_iff.mp this).1
        rw [List.getElem?_append_left (by simpa using hi)]
        simp [this]
    have fin : ∀ v S' H' σ', Ex S S' → Sat K (pinOf B vs) S' H' [(v, r)] ρ' σ' FF → Q v H' := fun v S' H' σ' x w' => by
      refine kk v S' H' x ?_
      obtain ⟨rr, q⟩ := its_outs B ρ' σ' vs w'.pin
      rw [ho]
      refine w'.own.sub ⟨rr, ?_⟩
      show ((v, r) :: (its ρ' σ' ++ FF)).Perm _
      refine (((q.append_right FF).cons (v, r))).trans ?_
      rw [List.append_assoc]
      exact List.perm_middle.symm
    refine ⟨t, sb.pe.nox, ?_⟩
    rcases hres with hr1 | ⟨hr1, rfl⟩
    · exact sb.rd S H (rho0 N ods) (L2.start N vs) FF _ _ sat0 hr1 fun v S' H' σ' x w' => fin v S' H' σ' x w'
    · exact sb.rd S H (rho0 N ods) (L2.start N vs) FF _ _ sat0 hr1 fun S' H' σ' x w' => fin .non S' H' σ' x (w'.push (.non .nil))
end
end Qy
set_option Elab.async false
set_option linter.all false
set_option maxRecDepth 100000
set_option maxHeartbeats 400000
namespace Qy
open PySem PySem.Spec PyProof.Rows L2
/-! ### trees as the library's data -/
mutual
def D.py : D → Option PyData
  | .non => some .none
  | .bl b => some (.bool b)
  | .int i => some (.int i)
  | .str x => some (.str x)
  | .lst xs => (pyL xs).map .list
  | .tup xs => (pyL xs).map .tuple
  | .kt xs => (pyL xs).map .tuple
  | .dK _ => none
  | .dT _ => none
  | .ins _ _ => none
  | .raw _ => none
  | .scr _ => none
def pyL : List D → Option (List PyData)
  | [] => some []
  | d :: ds => match d.py, pyL ds with
    | some p, some ps => some (p :: ps)
    | _, _ => none
end
section
variable {X : Cx} {pin : List (Option V)} {K : PySem.W.Frag} {S H : Hp} {e a b : Expr} {t ta tb : TE} {f : Fe} {oa ob : Fo} {pos p : Pos}
theorem pyL_cons {d : D} {ds : List D} {ps : List PyData} (h : pyL (d :: ds) = some ps) : ∃ q qs, d.py = some q ∧ pyL ds = some qs ∧ ps = q :: qs := by
  simp only [pyL] at h
  split at h
  · rename_i q qs h1 h2; cases h; exact ⟨q, qs, h1, h2, rfl⟩
  · cases h
theorem rpi_dp {l : List (V × D)} (h : RpI K S l) : ∀ {ps : List PyData}, pyL (l.map (·.2)) = some ps → DpAll K S (l.map (·.1)) ps := by
  induction h with
  | nil => intro ps q; cases q; exact .nil
  | non _ ih => intro ps q; obtain ⟨_, _, h1, h2, rfl⟩ := pyL_cons q; cases h1; exact .cons .non (ih h2)
  | bl _ ih => intro ps q; obtain ⟨_, _, h1, h2, rfl⟩ := pyL_cons q; cases h1; exact .cons (.bl _) (ih h2)
  | int _ ih => intro ps q; obtain ⟨_, _, h1, h2, rfl⟩ := pyL_cons q; cases h1; exact .cons (.int _) (ih h2)
  | str _ ih => intro ps q; obtain ⟨_, _, h1, h2, rfl⟩ := pyL_cons q; cases h1; exact .cons (.str _) (ih h2)
  | raw _ ih => intro ps q; obtain ⟨_, _, h1, h2, rfl⟩ := pyL_cons q; cases h1
  | scr _ _ ih => intro ps q; obtain ⟨_, _, h1, h2, rfl⟩ := pyL_cons q; cases h1
  | lst a b c _ i1 i2 =>
    intro ps q
    obtain ⟨_, _, h1, h2, rfl⟩ := pyL_cons q
    simp only [D.py, Option.map_eq_some_iff] at h1
    obtain ⟨qs, h3, rfl⟩ := h1
    refine .cons (.lst (SqL.of a) ?_) (i2 h2)
    have := i1 (ps := qs) (by rw [List.map_snd_zip (by omega)]; exact h3)
    rw [List.map_fst_zip (by omega)] at this
    exact this
  | tup a b c _ i1 i2 =>
    intro ps q
    obtain ⟨_, _, h1, h2, rfl⟩ := pyL_cons q
    simp only [D.py, Option.map_eq_some_iff] at h1
    obtain ⟨qs, h3, rfl⟩ := h1
    refine .cons (.tup (SqT.of a) ?_) (i2 h2)
    have := i1 (ps := qs) (by rw [List.map_snd_zip (by omega)]; exact h3)
    rw [List.map_fst_zip (by omega)] at this
    exact this
  | kt a b c _ i1 i2 =>
    intro ps q
    obtain ⟨_, _, h1, h2, rfl⟩ := pyL_cons q
    simp only [D.py, Option.map_eq_some_iff] at h1
    obtain ⟨qs, h3, rfl⟩ := h1
    refine .cons (.tup a ?_) (i2 h2)
    have := i1 (ps := qs) (by rw [List.map_snd_zip (by omega)]; exact h3)
    rw [List.map_fst_zip (by omega)] at this
    exact this
  | dK _ _ _ _ _ _ => intro ps q; obtain ⟨_, _, h1, h2, rfl⟩ := pyL_cons q; cases h1
  | dT _ _ _ _ _ _ => intro ps q; obtain ⟨_, _, h1, h2, rfl⟩ := pyL_cons q; cases h1
  | ins _ _ _ _ _ _ => intro ps q; obtain ⟨_, _, h1, h2, rfl⟩ := pyL_cons q; cases h1
theorem dp_head {v : V} {q : PyData} (h : DpAll K S [v] [q]) : Dp K S v q := by cases h with | cons a _ => exact a
theorem rp_dp {v : V} {d : D} {q : PyData} (h : Rp K S v d) (hq : d.py = some q) : Dp K S v q :=
  dp_head (rpi_dp h (ps := [q]) (by simp [pyL, hq]))
mutual
theorem dp_mono {S' : Hp} (e : Ex S S') : ∀ {v : V} {q : PyData}, Dp K S v q → Dp K S' v q
  | _, _, .non => .non
  | _, _, .bl b => .bl b
  | _, _, .int i => .int i
  | _, _, .str x => .str x
  | _, _, .lst a b => .lst (ex_l e a) (dpall_mono e b)
  | _, _, .tup a b => .tup (ex_t e a) (dpall_mono e b)
theorem dpall_mono {S' : Hp} (e : Ex S S') : ∀ {vs : List V} {qs : List PyData}, DpAll K S vs qs → DpAll K S' vs qs
  | _, _, .nil => .nil
  | _, _, .cons a b => .cons (dp_mono e a) (dpall_mono e b)
end
theorem At.dp {x : V} {o : OD} {d : D} {q : PyData} (h : At K S H x o) (le : Ex S H) (r : o.rd = some d) (hq : d.py = some q) : Dp K H x q := by
  cases d with
  | lst ds =>
    obtain ⟨a, vs, rfl, ha, hl, hr⟩ := h.lst le r
    simp only [D.py, Option.map_eq_some_iff] at hq
    obtain ⟨qs, h3, rfl⟩ := hq
    refine .lst (SqL.of ha) (dpall_mono le ?_)
    have := rpi_dp hr (ps := qs) (by rw [List.map_snd_zip (by omega)]; exact h3)
    rw [List.map_fst_zip (by omega)] at this
    exact this
  | dK ds => cases hq
  | dT ds => cases hq
  | _ => exact dp_mono le (rp_dp (h.plain r (by simp) (by simp) (by simp)) hq)
/-! ### equality -/
def OD.py (o : OD) : Option PyData := o.val.py
theorem owi_dp {l : List It} {fp : List Addr} (h : OwI K S H l fp) (le : Ex S H) : ∀ {ps : List PyData}, pyL (l.map fun p => p.2.val) = some ps → DpAll K H (l.map (·.1)) ps := by
  induction h with
  | nil => intro ps q; cases q; exact .nil
  | st r _ ih => intro ps q; obtain ⟨_, _, h1, h2, rfl⟩ := pyL_cons q; exact .cons (dp_mono le (rp_dp r h1)) (ih h2)
  | ol a b c _ i1 i2 =>
    intro ps q
    obtain ⟨_, _, h1, h2, rfl⟩ := pyL_cons q
    simp only [OD.val, D.py, Option.map_eq_some_iff] at h1
    obtain ⟨qs, h3, rfl⟩ := h1
    refine .cons (.lst (SqL.of a) ?_) (i2 h2)
    rw [valL_map] at h3
    have := i1 (ps := qs) (by
      have e : ∀ (vs : List V) (os : List OD), vs.length = os.length → (vs.zip os).map (fun p => p.2.val) = os.map OD.val := fun vs os hl => by
        rw [← List.map_snd_zip (l₁ := vs) (l₂ := os) (by omega), List.map_map]
        rw [List.map_snd_zip (by omega)]
        rfl
      rw [e _ _ b]; exact h3)
    rw [List.map_fst_zip (by omega)] at this
    exact this
  | oK _ _ _ _ _ _ => intro ps q; obtain ⟨_, _, h1, h2, rfl⟩ := pyL_cons q; simp [OD.val, D.py] at h1
  | oT _ _ _ _ _ _ => intro ps q; obtain ⟨_, _, h1, h2, rfl⟩ := pyL_cons q; simp [OD.val, D.py] at h1
  | oi _ _ _ _ _ _ => intro ps q; obtain ⟨_, _, h1, h2, rfl⟩ := pyL_cons q; simp [OD.val, D.py] at h1
  | cell _ _ _ => intro ps q; obtain ⟨_, _, h1, h2, rfl⟩ := pyL_cons q; simp [OD.val, D.py] at h1
theorem At.py {x : V} {o : OD} {q : PyData} (h : At K S H x o) (le : Ex S H) (r : o.py = some q) : Dp K H x q := by
  obtain ⟨fp, w⟩ := h
  have r' : o.val.py = some q := r
  exact dp_head (owi_dp w le (ps := [q]) (by simp [pyL, r']))
def gEq : OD → OD → Option OD := fun a b => match a.py, b.py with
  | some p, some q => if SeqAt.shaped p = true ∧ SeqAt.shaped q = true then some (.st (.bl (PyData.eqv p q))) else none
  | _, _ => none
def gNe : OD → OD → Option OD := fun a b => match a.py, b.py with
  | some p, some q => if SeqAt.shaped p = true ∧ SeqAt.shaped q = true then some (.st (.bl (!PyData.eqv p q))) else none
  | _, _ => none
theorem rg_eq : RG2 K (rEqD K) gEq := by
  intro S H L x y ox oy oz Q w e k
  unfold gEq at e
  split at e
  · rename_i p q h1 h2
    split at e
    · rename_i hs
      cases e
      exact ⟨p, q, w.at1.py w.le h1, w.at0.py w.le h2, hs.1, hs.2, k _ S H (ex_refl S) (w.push (.bl .nil))⟩
    · cases e
  · cases e
theorem rg_ne : RG2 K (rNeD K) gNe := by
  intro S H L x y ox oy oz Q w e k
  unfold gNe at e
  split at e
  · rename_i p q h1 h2
    split at e
    · rename_i hs
      cases e
      exact ⟨p, q, w.at1.py w.le h1, w.at0.py w.le h2, hs.1, hs.2, k _ S H (ex_refl S) (w.push (.bl .nil))⟩
    · cases e
  · cases e
/-- x in a list of data -/
def gIn : OD → OD → Option OD := fun a b => match a.py, b.py with
  | some p, some (.list qs) => if SeqAt.shaped p = true ∧ SeqAt.shaped (.list qs) = true then some (.st (.bl (qs.any fun z => PyData.eqv z p))) else none
  | _, _ => none
def gNotIn : OD → OD → Option OD := fun a b => match a.py, b.py with
  | some p, some (.list qs) => if SeqAt.shaped p = true ∧ SeqAt.shaped (.list qs) = true then some (.st (.bl (!qs.any fun z => PyData.eqv z p))) else none
  | _, _ => none
theorem rg_in : RG2 K (rInD K) gIn := by
  intro S H L x y ox oy oz Q w e k
  unfold gIn at e
  split at e
  · rename_i p qs h1 h2
    split at e
    · rename_i hs
      cases e
      exact ⟨p, qs, w.at1.py w.le h1, w.at0.py w.le h2, hs.1, hs.2, k _ S H (ex_refl S) (w.push (.bl .nil))⟩
    · cases e
  · cases e
theorem rg_notIn : RG2 K (rNotInD K) gNotIn := by
  intro S H L x y ox oy oz Q w e k
  unfold gNotIn at e
  split at e
  · rename_i p qs h1 h2
    split at e
    · rename_i hs
      cases e
      exact ⟨p, qs, w.at1.py w.le h1, w.at0.py w.le h2, hs.1, hs.2, k _ S H (ex_refl S) (w.push (.bl .nil))⟩
    · cases e
  · cases e
/-! ### repr -/
def rRepr (K : PySem.W.Frag) : List V → Hp → VK → Prop := fun xs H Q => ∃ x d, xs = [x] ∧ Dp K H x d ∧ d.showable = true ∧ d.hasDict = false ∧ d.depth ≤ 64 ∧ d.shown.length ≤ sizeLine ∧ Q (.str d.shown) H
theorem call_repr (hu : X.A.units + 66 < cLine) (hg : X.A.guards = some []) : CallR X (.builtin "repr") (rRepr X.K) := by
  intro pins s σ H xs us Q I r h
  obtain ⟨x, d, rfl, hd, h1, h2, h3, h4, q⟩ := h
  obtain ⟨u, rfl, ru⟩ := vals1 r
  obtain ⟨as, rd⟩ := Dp.reads I d x u hd ru
  cases rd with
  | none => exact PySem.P.repr_of_none ⟨.str "None", H, I.tok _, ⟨_, rfl⟩, q⟩
  | bool b => exact PySem.P.repr_of_bool ⟨.str (if b then "True" else "False"), H, I.tok _, ⟨_, rfl⟩, q⟩
  | int i t => exact PySem.P.repr_of_int (by simpa [PyData.showable] using h1) ⟨.str (toString i), H, I.tok _, ⟨_, rfl⟩, q⟩
  | str y t => exact PySem.P.repr_of_str ⟨.str (reprText y), H, I.tok _, ⟨_, rfl⟩, q⟩ h4
  | list e1 e2 e3 e4 => exact repr_of_reads' (.list e1 e2 e3 e4) h1 (by rw [h2]; intro z; cases z) hg (by omega) (fun _ _ z => z) (fun h' u tk hk => ⟨.str _, H, I.kept hk, ⟨_, rfl⟩, q⟩) h4
  | tuple e1 e2 e3 e4 => exact repr_of_reads' (.tuple e1 e2 e3 e4) h1 (by rw [h2]; intro z; cases z) hg (by omega) (fun _ _ z => z) (fun h' u tk hk => ⟨.str _, H, I.kept hk, ⟨_, rfl⟩, q⟩) h4
  | dict _ _ _ _ _ => simp [PyData.hasDict] at h2

def gRepr : OD → Option OD := fun a => match a.py with
  | some d => if d.showable = true ∧ d.hasDict = false ∧ d.depth ≤ 64 ∧ d.shown.length ≤ big then some (.st (.str d.shown)) else none
  | none => none
theorem rg_repr : RG1 K (fun x H Q => rRepr K [x] H Q) gRepr := by
  intro S H L x ox oz Q w e k
  unfold gRepr at e
  split at e
  · rename_i d hd
    split at e
    · rename_i h
      cases e
      exact ⟨x, d, rfl, w.at0.py w.le hd, h.1, h.2.1, h.2.2.1, big_le h.2.2.2, k _ S H (ex_refl S) (w.push (.str .nil))⟩
    · cases e
  · cases e
/-! ### sorted -/
def pyD (d : D) : PyData := d.py.getD .none
def leD (a b : D) : Bool := W.dataLe false pyD a b
/-- the kinds of data that may be sorted: all of one kind -/
def sortOk (ds : List D) : Prop := (∀ d ∈ ds, d.py.isSome = true) ∧ W.AllAlike (ds.map pyD) ∧ W.Sortable (ds.map pyD) ∧ ∀ d ∈ ds, (pyD d).depth ≤ 64
def rSorted (K : PySem.W.Frag) : List V → Hp → VK → Prop := fun vs H Q => ∃ (a : Addr) (xs : List V) (ds : List D), vs = [.ref a] ∧ SqL K H a xs ∧ xs.length = ds.length ∧ (∀ p ∈ xs.zip ds, Dp K H p.1 (pyD p.2)) ∧ sortOk ds ∧
  ∀ p, H p = none → Q (.ref p) (upd H p (.lst (((xs.zip ds).mergeSort fun a b => leD a.2 b.2).map (·.1))))
theorem each_zip {its : List Value} {R : Value → V × D → Prop} : ∀ {xs : List V} {ds : List D}, xs.length = ds.length → Vals xs its → (∀ v u d, RelV v u → (v, d) ∈ xs.zip ds → R u (v, d)) → W.EachIs R its (xs.zip ds) := by
  induction its with
  | nil =>
    intro xs ds hl r _
    cases r
    exact .nil
  | cons u its ih =>
    intro xs ds hl r h
    cases r with
    | cons rv rr =>
      cases ds with
      | nil => cases hl
      | cons d ds =>
        simp only [List.zip_cons_cons]
        exact .cons (h _ _ _ rv (by simp)) (ih (by simpa using hl) rr fun v u' d' r' hm => h v u' d' r' (by simp [hm]))
theorem vals_each : ∀ {out : List Value} {l : List (V × D)}, W.EachIs (fun u p => RelV p.1 u) out l → Vals (l.map (·.1)) out
  | _, _, .nil => .nil
  | _, _, .cons r t => .cons r (vals_each t)
theorem cr_sortedQ (hu : X.A.units + 67 < cLine) : CallR X (.builtin "sorted") (rSorted X.K) := by
  intro pins s σ H vs us Q I r h
  obtain ⟨a, xs, ds, rfl, hs, hl, hp, ⟨h1, h2, h3, h4⟩, q⟩ := h
  obtain ⟨its, rv, hL, hz⟩ := I.list hs
  rw [Vals.ref1 r]
  have em : (xs.zip ds).map (fun p => pyD p.2) = ds.map pyD := by
    have : (xs.zip ds).map (fun p => pyD p.2) = ((xs.zip ds).map (·.2)).map pyD := by rw [List.map_map]; rfl
    rw [this, List.map_snd_zip (by omega)]
  have er : W.EachIs (fun u (p : V × D) => RelV p.1 u) its (xs.zip ds) := each_zip hl rv fun v u d r' _ => r'
  have er2 : W.EachIs (fun u (p : V × D) => ∃ as, Reads s.heap u (pyD p.2) as) its (xs.zip ds) := each_zip hl rv fun v u d r' hm => Dp.reads I _ v u (hp _ hm) r'
  refine W.sorted_data (R := fun u (p : V × D) => RelV p.1 u) (enc := fun p => pyD p.2) hL.isList er er2 (by rw [em]; exact h2) (by rw [em]; exact h3) (by rw [List.length_zip]; omega) (fun p hm => ?_) fun out ho hE => ?_
  · have := h4 p.2 (List.of_mem_zip hm).2
    omega
  · obtain ⟨ep, he'⟩ := PyProof.Rows.sortedAll_at s.heap its out.toArray
    have vv := vals_each hE
    refine ⟨.ref _, upd H (s.heap.objs.size + 1) (.lst _), I.laid (t' := s.toks) (fun _ _ => PyProof.Rows.sortedAll_old) (Nat.le_succ _) ⟨?_, out, ep, vv, he'⟩, rfl, q _ (I.hok.fresh (Nat.le_succ _))⟩
    rw [List.length_map, List.length_mergeSort, List.length_zip]; omega
/-- sorted(x) of a list, told as data; whether it may be sorted is the prover's to show -/
noncomputable def gSorted : OD → Option OD := fun a => match a.rd with
  | some (.lst ds) => (open Classical in if sortOk ds then some (.ol ((ds.mergeSort leD).map .st)) else none)
  | _ => none
theorem rg_sorted : RG1 K (fun x H Q => rSorted K [x] H Q) gSorted := by
  intro S H L x ox oz Q w e k
  unfold gSorted at e
  split at e
  · rename_i ds hd
    split at e
    · rename_i hok
      cases e
      obtain ⟨a, vs, rfl, ha, hl, hr⟩ := w.at0.lst w.le hd
      refine ⟨a, vs, ds, rfl, SqL.of ha, hl, fun p hp => ?_, hok, fun p hp => ?_⟩
      · have rp := RpI.all.mp hr p hp
        have hs := hok.1 p.2 (List.of_mem_zip hp).2
        cases hq : p.2.py with
        | none => rw [hq] at hs; cases hs
        | some q =>
          have : pyD p.2 = q := by unfold pyD; rw [hq]; rfl
          rw [this]
          exact dp_mono w.le (rp_dp rp hq)
      · refine k _ S _ (ex_refl S) ?_
        have hp2 := (List.mergeSort_perm (vs.zip ds) fun a b => leD a.2 b.2)
        have e1 : ((vs.zip ds).mergeSort fun a b => leD a.2 b.2).map (·.2) = ds.mergeSort leD := by
          rw [List.map_mergeSort (s := leD) (fun a _ b _ => rfl), List.map_snd_zip (by omega)]
        have hz : (((vs.zip ds).mergeSort fun a b => leD a.2 b.2).map (·.1)).zip (ds.mergeSort leD) = (vs.zip ds).mergeSort fun a b => leD a.2 b.2 := by
          rw [← e1]
          exact (List.zip_of_prod rfl rfl).symm
        refine Own.newS w ?_ (by simp [hl]) hp
        rw [hz]
        exact hr.sub fun p hp' => hp2.mem_iff.mp hp'
    · cases e
  · cases e
end
end Qy
set_option Elab.async false
set_option linter.all false
set_option maxRecDepth 100000
set_option maxHeartbeats 400000
namespace Qy
open PySem PySem.Spec PyProof.Rows L2
section
variable {X : Cx} {pin : List (Option V)} {K : PySem.W.Frag} {S H : Hp} {e a b : Expr} {t ta tb : TE} {f : Fe} {oa ob : Fo} {pos p apos : Pos} {es : List Expr} {tt : TA} {ff : Fa}
/-! ### displays -/
def fLst (f : Fa) : Fe := fun ρ => match f ρ with
  | some (ods, ρ1) => if ods.length ≤ big then some (.ol ods, ρ1) else none
  | none => none
theorem se_list (h : SA X pin es tt ff) : SE X pin (.List es pos) (tLst tt) (fLst ff) := ⟨pe_lst h.pe, by
  intro S H T ρ σ F Q od ρ' w e k
  unfold fLst at e
  split at e
  · rename_i ods ρ1 q
    split at e
    · rename_i hb
      cases e
      refine h.rd S H T ρ σ F _ _ _ w q fun vs S' H' x hl w' => ⟨big_le (by omega), fun p hp => k _ S' _ x ?_⟩
      have ow := w'.own
      rw [List.append_assoc] at ow
      exact w'.with (ow.newL hl hp)
    · cases e
  · cases e⟩
def fTup (f : Fa) : Fe := fun ρ => match f ρ with
  | some (ods, ρ1) => if ods.length ≤ big then some (.st (.tup (ods.map OD.val)), ρ1) else none
  | none => none
theorem se_tup {k : Nat} (h : SA X pin es tt ff) : SE X pin (.Tuple es k pos) (tTup tt) (fTup ff) := ⟨pe_tup h.pe, by
  intro S H T ρ σ F Q od ρ' w e k
  unfold fTup at e
  split at e
  · rename_i ods ρ1 q
    split at e
    · rename_i hb
      cases e
      refine h.rd S H T ρ σ F _ _ _ w q fun vs S' H' x hl w' => ⟨big_le (by omega), fun p hp => ?_⟩
      have ow := w'.own
      rw [List.append_assoc] at ow
      obtain ⟨S2, e2, r2, o2⟩ := ow.freeze
      rw [vals_zip] at r2
      obtain ⟨e3, o3⟩ := o2.newT r2 (by simp [hl]) hp
      exact k _ _ _ (ex_trans x (ex_trans e2 e3)) (w'.with o3)
    · cases e
  · cases e⟩
/-! ### subscripts -/
def gIx : OD → OD → Option OD := fun a b => match a.rd, b with
  | some (.lst ds), .st (.int i) => (atI ds i).map .st
  | some (.tup ds), .st (.int i) => (atI ds i).map .st
  | some (.kt ds), .st (.int i) => (atI ds i).map .st
  | some (.scr ns), .st (.int i) => (atI ns i).map fun n => .st (.int n)
  | some (.str z), .st (.int i) => if z.length ≤ big then (atI z.cps.toList i).map fun c => .st (.str ⟨#[c]⟩) else none
  | _, _ => none
theorem atI_zip {vs : List V} {ds : List D} {i : Int} {d : D} (hl : vs.length = ds.length) (h : atI ds i = some d) : ∃ v, atI vs i = some v ∧ (v, d) ∈ vs.zip ds := by
  unfold atI at h ⊢
  rw [hl]
  cases q : ixN ds.length i with
  | none => rw [q] at h; cases h
  | some j =>
    rw [q] at h
    have hj : ds[j]? = some d := h
    have hlt := (List.getElem?_eq_some_iff.mp hj).1
    refine ⟨vs[j]'(by omega), by simp [show j < vs.length by omega], ?_⟩
    apply List.mem_of_getElem? (i := j)
    rw [List.getElem?_zip_eq_some]
    exact ⟨List.getElem?_eq_getElem _, hj⟩
theorem rg_ix : RG2 K (rIx K) gIx := by
  intro S H L x y ox oy oz Q w e k
  unfold gIx at e
  split at e
  · rename_i ds i hx
    obtain ⟨d, hd, rfl⟩ := Option.map_eq_some_iff.mp e
    obtain ⟨a, vs, rfl, ha, hl, hr⟩ := w.at1.lst w.le hx
    cases w.at0.st
    obtain ⟨v, hv, hm⟩ := atI_zip hl hd
    exact .inl ⟨a, vs, i, v, rfl, rfl, SqL.of ha, hv, k v S H (ex_refl S) (w.push (RpI.all.mp hr _ hm))⟩
  · rename_i ds i hx
    obtain ⟨d, hd, rfl⟩ := Option.map_eq_some_iff.mp e
    obtain ⟨a, vs, rfl, ha, hl, hr⟩ := w.at1.tup w.le hx
    cases w.at0.st
    obtain ⟨v, hv, hm⟩ := atI_zip hl hd
    exact .inr (.inl ⟨a, vs, i, v, rfl, rfl, SqT.of (w.le _ _ ha), hv, k v S H (ex_refl S) (w.push (RpI.all.mp hr _ hm))⟩)
  · rename_i ds i hx
    obtain ⟨d, hd, rfl⟩ := Option.map_eq_some_iff.mp e
    cases w.at1.plain hx (by simp) (by simp) (by simp) with
    | kt ha hl hr _ =>
      cases w.at0.st
      obtain ⟨v, hv, hm⟩ := atI_zip hl hd
      exact .inr (.inl ⟨_, _, i, v, rfl, rfl, ex_t w.le ha, hv, k v S H (ex_refl S) (w.push (RpI.all.mp hr _ hm))⟩)
  · rename_i ns i hx
    obtain ⟨n, hn, rfl⟩ := Option.map_eq_some_iff.mp e
    cases w.at1.plain hx (by simp) (by simp) (by simp) with
    | scr ha _ =>
      cases w.at0.st
      refine .inl ⟨_, _, i, .int n, rfl, rfl, ex_l w.le ha, ?_, k _ S H (ex_refl S) (w.push (.int .nil))⟩
      unfold atI at hn ⊢
      rw [List.length_map]
      cases q : ixN ns.length i with
      | none => rw [q] at hn; cases hn
      | some j => rw [q] at hn; simp only [Option.bind_some] at hn ⊢; rw [List.getElem?_map, hn]; rfl
  · rename_i z i hx
    split at e
    · rename_i hb
      obtain ⟨c, hc, rfl⟩ := Option.map_eq_some_iff.mp e
      cases w.at1.plain hx (by simp) (by simp) (by simp)
      cases w.at0.st
      exact .inr (.inr ⟨z, i, c, rfl, rfl, big_le hb, hc, k _ S H (ex_refl S) (w.push (.str .nil))⟩)
    · cases e
  · cases e
theorem se_ix (ha : SO X pin a ta oa) (hb : SO X pin b tb ob) (hs : PlainIx b := by exact fun _ _ => rfl) (hK : X.K = K := by rfl) : SE X pin (.Subscript a b pos) (tOp (rIx K) ta tb) (fBin gIx oa ob) := by subst hK; exact ⟨pe_ix ix_seq ha.pe hb.pe hs, re_bin ha.rd hb.rd rg_ix⟩
/-! ### slices -/
abbrev Fp := Rho → Option (Option Int × Rho)
def RP (K : PySem.W.Frag) (pin : List (Option V)) (t : TO) (f : Fp) : Prop := ∀ S H T ρ σ F Q o ρ', Sat K pin S H T ρ σ F → f ρ = some (o, ρ') → (∀ S' H', Ex S S' → Sat K pin S' H' T ρ' σ F → Q o H') → t σ H Q
structure SP_ (X : Cx) (pin : List (Option V)) (e : Option Expr) (t : TO) (f : Fp) : Prop where
  pe : PO X e t
  rd : RP X.K pin t f
def fNoPart : Fp := fun ρ => some (none, ρ)
def fPart (f : Fe) : Fp := fun ρ => match f ρ with
  | some (.st (.int i), ρ1) => some (some i, ρ1)
  | _ => none
theorem sp_none : SP_ X pin none tNoPart fNoPart := ⟨po_none, by
  intro S H T ρ σ F Q o ρ' w e k
  cases e
  exact k S H (ex_refl S) w⟩
theorem sp_some (h : SE X pin e t f) : SP_ X pin (some e) (tPart t) (fPart f) := ⟨po_some h.pe, by
  intro S H T ρ σ F Q o ρ' w q k
  unfold fPart at q
  split at q
  · rename_i i ρ1 q1
    cases q
    refine h.rd S H T ρ σ F _ _ _ w q1 fun v S' H' x w' => ?_
    cases w'.known
    exact ⟨i, rfl, k S' H' x w'.tl⟩
  · cases q⟩
def cutD (xs : List D) (lo hi : Option Int) : List D := (xs.drop (HT.sIx xs.length 0 lo)).take (HT.sIx xs.length xs.length hi - HT.sIx xs.length 0 lo)
def gSl (o : OD) (lo hi : Option Int) : Option OD := match o.rd with
  | some (.lst ds) => some (.ol ((cutD ds lo hi).map .st))
  | some (.tup ds) => if HT.sIx ds.length 0 lo = 0 ∧ HT.sIx ds.length ds.length hi = ds.length then none else some (.st (.tup (cutD ds lo hi)))
  | some (.str z) => if z.length ≤ big then some (.st (.str (cutS z lo hi))) else none
  | _ => none
def rSlQ (K : PySem.W.Frag) : V → Option Int → Option Int → Hp → VK → Prop := fun x lo hi H Q => rSlL K x lo hi H Q ∨ (rSlT K x lo hi H Q ∨ rSlS x lo hi H Q)
theorem cut_zip {vs : List V} {ds : List D} (hl : vs.length = ds.length) (lo hi : Option Int) : (cutV vs lo hi).zip (cutD ds lo hi) = (((vs.zip ds).drop (HT.sIx ds.length 0 lo)).take (HT.sIx ds.length ds.length hi - HT.sIx ds.length 0 lo)) := by
  unfold cutV cutD
  rw [hl]
  simp only [List.zip, List.drop_zipWith, List.take_zipWith]
theorem cut_len {vs : List V} {ds : List D} (hl : vs.length = ds.length) (lo hi : Option Int) : (cutV vs lo hi).length = (cutD ds lo hi).length := by
  unfold cutV cutD
  simp [hl]
def fSl (a : Fo) (lo hi : Fp) : Fe := fun ρ => match a.1 ρ with
  | some (o, ρ1) => (match lo ρ1 with
    | some (l, ρ2) => (match hi ρ2 with
      | some (h, ρ3) => (match gSl o l h with
        | some oz => some (oz, a.2 o ρ3)
        | none => none)
      | none => none)
    | none => none)
  | none => none
theorem re_sl {tl th : TO} {fl fh : Fp} (ha : RO K pin ta oa) (hl : RP K pin tl fl) (hh : RP K pin th fh) : RE K pin (tSl (rSlQ K) ta tl th) (fSl oa fl fh) := by
  intro S H T ρ σ F Q od ρ' w e k
  unfold fSl at e
  split at e
  · rename_i o ρ1 q1
    split at e
    · rename_i l ρ2 q2
      split at e
      · rename_i h ρ3 q3
        split at e
        · rename_i oz q4
          cases e
          refine ha S H T ρ σ F _ o ρ1 w q1 fun x S1 H1 e1 w1 rs1 => ?_
          refine hl S1 H1 _ ρ1 σ F _ l ρ2 w1 q2 fun S2 H2 e2 w2 => ?_
          refine hh S2 H2 _ ρ2 σ F _ h ρ3 w2 q3 fun S3 H3 e3 w3 => ?_
          have fin : ∀ v S' H', Ex S3 S' → Own K S' H' [] ((v, od) :: (x, o) :: (T ++ (its ρ3 σ ++ F))) → Q v H' := fun v S' H' e4 o4 => by
            have z : Sat K pin S' H' ((x, o) :: (v, od) :: T) ρ3 σ F := w3.with (o4.perm (.swap _ _ _))
            exact k v S' H' (ex_trans e1 (ex_trans e2 (ex_trans e3 e4))) (rs1 _ _ _ _ _ z)
          have w3o : Own K S3 H3 [] ((x, o) :: (T ++ (its ρ3 σ ++ F))) := w3.own
          unfold gSl at q4
          split at q4
          · rename_i ds hx
            cases q4
            obtain ⟨ad, vs, rfl, hA, hL, hr⟩ := w3o.at0.lst w3o.le hx
            refine .inl ⟨ad, vs, rfl, SqL.of hA, fun p hp => fin _ S3 _ (ex_refl S3) (Own.newS w3o ?_ (cut_len hL l h) hp)⟩
            rw [cut_zip hL]
            exact hr.sub fun p hp => List.mem_of_mem_drop (List.mem_of_mem_take hp)
          · rename_i ds hx
            split at q4
            · cases q4
            · rename_i hn
              cases q4
              obtain ⟨ad, vs, rfl, hA, hL, hr⟩ := w3o.at0.tup w3o.le hx
              refine .inr (.inl ⟨ad, vs, rfl, SqT.of (w3o.le _ _ hA), by rw [hL]; exact hn, fun p hp => ?_⟩)
              obtain ⟨e5, o5⟩ := Own.newT (ds := cutD ds l h) w3o (by rw [cut_zip hL]; exact hr.sub fun p hp => List.mem_of_mem_drop (List.mem_of_mem_take hp)) (cut_len hL l h) hp
              exact fin _ _ _ e5 o5
          · rename_i z hx
            split at q4
            · rename_i hb
              cases q4
              cases w3o.at0.plain hx (by simp) (by simp) (by simp)
              exact .inr (.inr ⟨z, rfl, big_le hb, fin _ S3 H3 (ex_refl S3) (w3o.push (.str .nil))⟩)
            · cases q4
          · cases q4
        · cases e
      · cases e
    · cases e
  · cases e
theorem se_sl {lo hi : Option Expr} {tl th : TO} {fl fh : Fp} {p2 : Pos} (ha : SO X pin a ta oa) (hl : SP_ X pin lo tl fl) (hh : SP_ X pin hi th fh) (hK : X.K = K := by rfl) : SE X pin (.Subscript a (.Slice lo hi none p2) pos) (tSl (rSlQ K) ta tl th) (fSl oa fl fh) := by
  subst hK; exact ⟨pe_slice (sl_list.or (sl_tup.or sl_str)) ha.pe hl.pe hh.pe, re_sl ha.rd hl.rd hh.rd⟩
/-! ### built-ins by their names -/
theorem se_b1 {x : Str} {id : String} {r : List V → Hp → VK → Prop} {g : OD → Option OD} (hc : CallR X (.builtin id) r) (hr : RG1 X.K (fun x H Q => r [x] H Q) g) (hm : X.mg x = none) (hv : bootBuiltins x = some (.builtin id)) (ha : SO X pin a ta oa) (hg : Gl X x := by rfl) (hn : x ≠ "__name__" := by decide) (hdb : (x == ("__debug__" : Str)) = false := by decide)
    (hs : starEach [a] X.env = (false, eval a X.env) :: starEach [] X.env := by rfl) : SE X pin (.Call (.Name x p) [a] [] pos) (tCB r (tCons ta tNil)) (fUn g oa) := ⟨pe_callB hc hg hm hv (pa_cons ha.pe pa_nil hs) hn hdb hs rfl, re_cb1 ha.rd hr⟩
theorem se_b2 {x : Str} {id : String} {r : List V → Hp → VK → Prop} {g : OD → OD → Option OD} (hc : CallR X (.builtin id) r) (hr : RG2 X.K (fun x y H Q => r [x, y] H Q) g) (hm : X.mg x = none) (hv : bootBuiltins x = some (.builtin id)) (ha : SO X pin a ta oa) (hb : SO X pin b tb ob) (hg : Gl X x := by rfl) (hn : x ≠ "__name__" := by decide) (hdb : (x == ("__debug__" : Str)) = false := by decide)
    (hs : starEach [a, b] X.env = (false, eval a X.env) :: starEach [b] X.env := by rfl) (hs2 : starEach [b] X.env = (false, eval b X.env) :: starEach [] X.env := by rfl) (hpl : (backTo pos (starEach [b] X.env)).any (·.1) = false := by rfl) : SE X pin (.Call (.Name x p) [a, b] [] pos) (tCB r (tCons ta (tCons tb tNil))) (fBin g oa ob) :=
  ⟨pe_callB hc hg hm hv (pa_cons ha.pe (pa_cons hb.pe pa_nil hs2) hs) hn hdb hs hpl, re_cb2 ha.rd hb.rd hr⟩
theorem se_t1 {x : Str} {id : String} {r : List V → Hp → VK → Prop} {g : OD → Option OD} (hc : CallR X (.type id) r) (hr : RG1 X.K (fun x H Q => r [x] H Q) g) (hm : X.mg x = none) (hv : bootBuiltins x = some (.type id)) (ha : SO X pin a ta oa) (hg : Gl X x := by rfl) (hn : x ≠ "__name__" := by decide) (hdb : (x == ("__debug__" : Str)) = false := by decide)
    (hs : starEach [a] X.env = (false, eval a X.env) :: starEach [] X.env := by rfl) : SE X pin (.Call (.Name x p) [a] [] pos) (tCB r (tCons ta tNil)) (fUn g oa) := ⟨pe_callTy hc hg hm hv (pa_cons ha.pe pa_nil hs) hn hdb hs rfl, re_cb1 ha.rd hr⟩
/-! ### len -/
def gLen : OD → Option OD := fun a => match a.rd with
  | some (.lst ds) => some (.st (.int (ds.length : Nat)))
  | some (.tup ds) => some (.st (.int (ds.length : Nat)))
  | some (.kt ds) => some (.st (.int (ds.length : Nat)))
  | some (.scr ns) => some (.st (.int (ns.length : Nat)))
  | some (.str z) => if z.length ≤ big then some (.st (.int (z.length : Nat))) else none
  | _ => none
def rLenQ (K : PySem.W.Frag) : List V → Hp → VK → Prop := fun xs H Q => ∃ x n, xs = [x] ∧ LenV K x H n ∧ Q (.int n) H
theorem call_lenQ : CallR X (.builtin "len") (rLenQ X.K) := call_len
theorem rg_len : RG1 K (fun x H Q => rLenQ K [x] H Q) gLen := by
  intro S H L x ox oz Q w e k
  unfold gLen at e
  split at e
  · rename_i ds hx
    cases e
    obtain ⟨a, vs, rfl, ha, hl, hr⟩ := w.at0.lst w.le hx
    exact ⟨_, vs.length, rfl, .inl ⟨vs, SqL.of ha, rfl⟩, by rw [hl]; exact k _ S H (ex_refl S) (w.push (.int .nil))⟩
  · rename_i ds hx
    cases e
    obtain ⟨a, vs, rfl, ha, hl, hr⟩ := w.at0.tup w.le hx
    exact ⟨_, vs.length, rfl, .inr ⟨vs, SqT.of (w.le _ _ ha), rfl⟩, by rw [hl]; exact k _ S H (ex_refl S) (w.push (.int .nil))⟩
  · rename_i ds hx
    cases e
    cases w.at0.plain hx (by simp) (by simp) (by simp) with
    | kt ha hl hr _ => exact ⟨_, ds.length, rfl, .inr ⟨_, ex_t w.le ha, hl.symm⟩, k _ S H (ex_refl S) (w.push (.int .nil))⟩
  · rename_i ns hx
    cases e
    cases w.at0.plain hx (by simp) (by simp) (by simp) with
    | scr ha _ => exact ⟨_, ns.length, rfl, .inl ⟨_, ex_l w.le ha, by simp⟩, k _ S H (ex_refl S) (w.push (.int .nil))⟩
  · rename_i z hx
    split at e
    · rename_i hb
      cases e
      cases w.at0.plain hx (by simp) (by simp) (by simp)
      exact ⟨_, z.length, rfl, ⟨big_le hb, rfl⟩, k _ S H (ex_refl S) (w.push (.int .nil))⟩
    · cases e
  · cases e
/-! ### abs, max, min, int, divmod -/
def gAbs := gI fun i => some (.int (if i < 0 then -i else i))
def gMax2 := gII fun i j => some (.int (if j > i then j else i))
def gMin2 := gII fun i j => some (.int (if j < i then j else i))
def gInt := gI fun i => some (.int i)
theorem rg_abs : RG1 K (fun x H Q => (fun xs H Q => ∃ i, xs = [.int i] ∧ Q (.int (if i < 0 then -i else i)) H : List V → Hp → VK → Prop) [x] H Q) gAbs := rg_i fun i d h => by cases h; exact ⟨_, pl_int, fun H Q q => ⟨i, rfl, q⟩⟩
theorem rg_max2 : RG2 K (fun x y H Q => (fun xs H Q => ∃ i j, xs = [.int i, .int j] ∧ Q (.int (if j > i then j else i)) H : List V → Hp → VK → Prop) [x, y] H Q) gMax2 := rg_ii fun i j d h => by cases h; exact ⟨_, pl_int, fun H Q q => ⟨i, j, rfl, q⟩⟩
theorem rg_min2 : RG2 K (fun x y H Q => (fun xs H Q => ∃ i j, xs = [.int i, .int j] ∧ Q (.int (if j < i then j else i)) H : List V → Hp → VK → Prop) [x, y] H Q) gMin2 := rg_ii fun i j d h => by cases h; exact ⟨_, pl_int, fun H Q q => ⟨i, j, rfl, q⟩⟩
theorem rg_int : RG1 K (fun x H Q => (fun xs H Q => (∃ i, xs = [.int i] ∧ Q (.int i) H) ∨ ∃ k, xs = [.bl k] ∧ Q (.int (if k then 1 else 0)) H : List V → Hp → VK → Prop) [x] H Q) gInt := rg_i fun i d h => by cases h; exact ⟨_, pl_int, fun H Q q => .inl ⟨i, rfl, q⟩⟩
def gDivmod : OD → OD → Option OD
  | .st (.int i), .st (.int j) => if 0 < j ∧ j < 1073741824 then some (.st (.tup [.int (i / j), .int (i % j)])) else none
  | _, _ => none
theorem rg_divmod : RG2 K (fun x y H Q => (fun xs H Q => ∃ i j, xs = [.int i, .int j] ∧ CDiv i j ∧ ∀ p, H p = none → Q (.ref p) (upd H p (.tup [.int (i / j), .int (i % j)])) : List V → Hp → VK → Prop) [x, y] H Q) gDivmod := by
  intro S H L x y ox oy oz Q w e k
  unfold gDivmod at e
  split at e
  · rename_i i j
    split at e
    · rename_i c
      cases e
      cases w.at1.st
      cases w.at0.st
      refine ⟨i, j, rfl, c, fun p hp => ?_⟩
      obtain ⟨e1, o1⟩ := Own.newT (vs := [.int (i / j), .int (i % j)]) (ds := [.int (i / j), .int (i % j)]) w (.int (.int .nil)) rfl hp
      exact k _ _ _ e1 o1
    · cases e
  · cases e
/-! ### all, any, sum -/
def blsOf : List D → Option (List Bool)
  | [] => some []
  | .bl b :: r => (blsOf r).map (b :: ·)
  | _ :: _ => none
theorem blsOf_map : ∀ bs : List Bool, blsOf (bs.map .bl) = some bs
  | [] => rfl
  | b :: r => by simp [blsOf, blsOf_map r]
theorem blsOf_eq : ∀ {ds : List D} {bs : List Bool}, blsOf ds = some bs → ds = bs.map .bl
  | [], bs, h => by cases h; rfl
  | .bl i :: r, bs, h => by
    simp only [blsOf, Option.map_eq_some_iff] at h
    obtain ⟨e, h1, rfl⟩ := h
    rw [blsOf_eq h1]; rfl
  | .non :: _, _, h | .int _ :: _, _, h | .str _ :: _, _, h | .lst _ :: _, _, h | .tup _ :: _, _, h | .dK _ :: _, _, h | .dT _ :: _, _, h | .ins _ _ :: _, _, h | .raw _ :: _, _, h | .scr _ :: _, _, h | .kt _ :: _, _, h => by cases h
theorem rp_bls {S : Hp} : ∀ {vs : List V} {bs : List Bool}, vs.length = bs.length → RpI K S (vs.zip (bs.map .bl)) → vs = bs.map V.bl
  | [], [], _, _ => rfl
  | [], _ :: _, h, _ => by cases h
  | _ :: _, [], h, _ => by cases h
  | v :: vs, n :: bs, h, r => by
    simp only [List.map_cons, List.zip_cons_cons] at r
    have := rp_bls (by simpa using h) r.tail
    subst this
    cases r.head
    rfl
def gAll : OD → Option OD := fun a => match a.rd with
  | some (.lst ds) => (blsOf ds).map fun bs => .st (.bl (bs.all id))
  | _ => none
def gAny : OD → Option OD := fun a => match a.rd with
  | some (.lst ds) => (blsOf ds).map fun bs => .st (.bl (bs.any id))
  | _ => none
def gSum : OD → Option OD := fun a => match a.rd with
  | some (.lst ds) => (intsOf ds).map fun ns => .st (.int ns.sum)
  | _ => none
theorem at_bls {x : V} {o : OD} {ds : List D} {bs : List Bool} (h : At K S H x o) (le : Ex S H) (r : o.rd = some (.lst ds)) (hb : blsOf ds = some bs) : ∃ a, x = .ref a ∧ SqL K H a (bs.map V.bl) := by
  obtain ⟨a, vs, rfl, ha, hl, hr⟩ := h.lst le r
  rw [blsOf_eq hb] at hl hr
  have := rp_bls (by simpa using hl) hr
  subst this
  exact ⟨a, rfl, SqL.of ha⟩
theorem rg_all : RG1 K (fun x H Q => rAll K [x] H Q) gAll := by
  intro S H L x ox oz Q w e k
  unfold gAll at e
  split at e
  · rename_i ds hx
    obtain ⟨bs, hb, rfl⟩ := Option.map_eq_some_iff.mp e
    obtain ⟨a, rfl, hs⟩ := at_bls w.at0 w.le hx hb
    exact ⟨a, bs, rfl, hs, k _ S H (ex_refl S) (w.push (.bl .nil))⟩
  · cases e
theorem rg_any : RG1 K (fun x H Q => rAny K [x] H Q) gAny := by
  intro S H L x ox oz Q w e k
  unfold gAny at e
  split at e
  · rename_i ds hx
    obtain ⟨bs, hb, rfl⟩ := Option.map_eq_some_iff.mp e
    obtain ⟨a, rfl, hs⟩ := at_bls w.at0 w.le hx hb
    exact ⟨a, bs, rfl, hs, k _ S H (ex_refl S) (w.push (.bl .nil))⟩
  · cases e
theorem rg_sum : RG1 K (fun x H Q => rSum K [x] H Q) gSum := by
  intro S H L x ox oz Q w e k
  unfold gSum at e
  split at e
  · rename_i ds hx
    obtain ⟨ns, hb, rfl⟩ := Option.map_eq_some_iff.mp e
    obtain ⟨a, vs, rfl, ha, hl, hr⟩ := w.at0.lst w.le hx
    rw [ints_eq hb] at hl hr
    have := rp_ints (by simpa using hl) hr
    subst this
    exact ⟨a, ns, rfl, SqL.of ha, k _ S H (ex_refl S) (w.push (.int .nil))⟩
  · cases e
/-! ### list(x), tuple(x) -/
def gList : OD → Option OD := fun a => match a.rd with
  | some (.lst ds) => some (.ol (ds.map .st))
  | some (.tup ds) => some (.ol (ds.map .st))
  | _ => none
def rListQ (K : PySem.W.Frag) : List V → Hp → VK → Prop := fun xs H Q => ∃ p ys, xs = [.ref p] ∧ (SqL K H p ys ∨ SqT K H p ys) ∧ ∀ l, H l = none → Q (.ref l) (upd H l (.lst ys))
theorem call_listQ : CallR X (.type "list") (rListQ X.K) := call_list_of
theorem rg_list : RG1 K (fun x H Q => rListQ K [x] H Q) gList := by
  intro S H L x ox oz Q w e k
  unfold gList at e
  split at e
  · rename_i ds hx
    cases e
    obtain ⟨a, vs, rfl, ha, hl, hr⟩ := w.at0.lst w.le hx
    exact ⟨a, vs, rfl, .inl (SqL.of ha), fun l h0 => k _ S _ (ex_refl S) (Own.newS w hr hl h0)⟩
  · rename_i ds hx
    cases e
    obtain ⟨a, vs, rfl, ha, hl, hr⟩ := w.at0.tup w.le hx
    exact ⟨a, vs, rfl, .inr (SqT.of (w.le _ _ ha)), fun l h0 => k _ S _ (ex_refl S) (Own.newS w hr hl h0)⟩
  · cases e
def gTuple : OD → Option OD := fun a => match a.rd with
  | some (.lst ds) => some (.st (.tup ds))
  | some (.tup ds) => some (.st (.tup ds))
  | _ => none
def rTupleQ (K : PySem.W.Frag) : List V → Hp → VK → Prop := fun xs H Q => ∃ p ys, xs = [.ref p] ∧ ((SqL K H p ys ∧ ∀ l, H l = none → Q (.ref l) (upd H l (.tup ys))) ∨ (SqT K H p ys ∧ Q (.ref p) H))
theorem call_tupleQ : CallR X (.type "tuple") (rTupleQ X.K) := call_tuple_of
theorem rg_tuple : RG1 K (fun x H Q => rTupleQ K [x] H Q) gTuple := by
  intro S H L x ox oz Q w e k
  unfold gTuple at e
  split at e
  · rename_i ds hx
    cases e
    obtain ⟨a, vs, rfl, ha, hl, hr⟩ := w.at0.lst w.le hx
    refine ⟨a, vs, rfl, .inl ⟨SqL.of ha, fun l h0 => ?_⟩⟩
    obtain ⟨e1, o1⟩ := Own.newT w hr hl h0
    exact k _ _ _ e1 o1
  · rename_i ds hx
    cases e
    obtain ⟨a, vs, rfl, ha, hl, hr⟩ := w.at0.tup w.le hx
    exact ⟨a, vs, rfl, .inr ⟨SqT.of (w.le _ _ ha), k _ S H (ex_refl S) (w.push (.tup ha hl hr .nil))⟩⟩
  · cases e
end
end Qy
set_option Elab.async false
set_option linter.all false
set_option maxRecDepth 100000
set_option maxHeartbeats 400000
namespace Qy
open PySem PySem.Spec PyProof.Rows L2
section
variable {X : Cx} {pin : List (Option V)} {K : PySem.W.Frag} {S H : Hp} {e a b : Expr} {t ta tb : TE} {f : Fe} {oa ob : Fo} {pos p apos : Pos} {es : List Expr} {tt : TA} {ff : Fa}
/-! ### isinstance of built-in classes -/
def tyN : D → Option String
  | .non => some "NoneType"
  | .bl _ => some "bool"
  | .int _ => some "int"
  | .str _ => some "str"
  | .lst _ => some "list"
  | .tup _ => some "tuple"
  | .dK _ => some "dict"
  | .dT _ => some "dict"
  | _ => none
theorem At.ty {x : V} {o : OD} {d : D} {n : String} (h : At K S H x o) (le : Ex S H) (r : o.rd = some d) (hn : tyN d = some n) : TyX K H x (.type n) := by
  cases d with
  | lst ds => cases hn; obtain ⟨a, vs, rfl, ha, _⟩ := h.lst le r; exact .base (.lst ha)
  | tup ds => cases hn; obtain ⟨a, vs, rfl, ha, _⟩ := h.tup le r; exact .base (.tup (le _ _ ha))
  | dK ds => cases hn; obtain ⟨a, vs, rfl, ha, _⟩ := h.dK le r; exact .base (.dK ha)
  | dT ds => cases hn; obtain ⟨a, vs, rfl, ha, _⟩ := h.dT le r; exact .base (.dT ha)
  | non => cases hn; cases h.plain r (by simp) (by simp) (by simp); exact .base .non
  | bl b => cases hn; cases h.plain r (by simp) (by simp) (by simp); exact .base (.bl _)
  | int i => cases hn; cases h.plain r (by simp) (by simp) (by simp); exact .base (.int _)
  | str z => cases hn; cases h.plain r (by simp) (by simp) (by simp); exact .base (.str _)
  | ins _ _ => cases hn
  | raw _ => cases hn
  | scr _ => cases hn
  | kt _ => cases hn
def gIsi : OD → OD → Option OD := fun a b => match a.rd.bind tyN, b with
  | some n, .st (.raw (.ty T)) => (kitB n T).map fun r => .st (.bl r)
  | _, _ => none
theorem rg_isi : RG2 K (fun x y H Q => rIsi K [x, y] H Q) gIsi := by
  intro S H L x y ox oy oz Q w e k
  unfold gIsi at e
  split at e
  · rename_i n T hx
    obtain ⟨r, hr, rfl⟩ := Option.map_eq_some_iff.mp e
    obtain ⟨d, hd, hn⟩ := Option.bind_eq_some_iff.mp hx
    cases w.at0.st
    exact ⟨x, .ty T, .type n, .type T, r, rfl, .ty T, w.at1.ty w.le hd hn, kit_ty hr, k _ S H (ex_refl S) (w.push (.bl .nil))⟩
  · cases e
/-- isinstance(x, (list, tuple)) -/
def gIsi2 : OD → OD → Option OD := fun a b => match a.rd.bind tyN, b with
  | some n, .st (.tup [.raw (.ty T), .raw (.ty U)]) => (match kitB n T, kitB n U with
    | some r, some s => some (.st (.bl (r || s)))
    | _, _ => none)
  | _, _ => none
theorem rg_isi2 : RG2 K (fun x y H Q => rIsiT K [x, y] H Q) gIsi2 := by
  intro S H L x y ox oy oz Q w e k
  unfold gIsi2 at e
  split at e
  · rename_i n T U hx
    split at e
    · rename_i r s h1 h2
      cases e
      obtain ⟨d, hd, hn⟩ := Option.bind_eq_some_iff.mp hx
      obtain ⟨ad, vs, rfl, ha, hl, hr⟩ := w.at0.tup w.le rfl
      match vs, hl with
      | [v1, v2], _ =>
        simp only [List.zip_cons_cons] at hr
        cases hr.head
        cases hr.tail.head
        refine ⟨x, ad, [.ty T, .ty U], .type n, [.type T, .type U], r || s, rfl, w.le _ _ ha, .cons (.ty T) (.cons (.ty U) .nil), w.at1.ty w.le hd hn, ?_, k _ S H (ex_refl S) (w.push (.bl .nil))⟩
        refine kitAny_cons (kit_ty h1) (fun hf => ?_) fun ht => by rw [ht]; rfl
        refine kitAny_cons (kit_ty h2) (fun hf2 => ?_) fun ht => by rw [hf, ht]; rfl
        rw [hf, hf2]
        rfl
    · cases e
  · cases e
/-! ### in -/
def scOf : D → Option V
  | .non => some .non
  | .bl b => some (.bl b)
  | .int i => some (.int i)
  | .str x => some (.str x)
  | _ => none
def scAll : List D → Option (List V)
  | [] => some []
  | d :: ds => match scOf d, scAll ds with
    | some v, some vs => some (v :: vs)
    | _, _ => none
theorem sc_rp {x : V} {d : D} {v : V} (h : Rp K S x d) (hv : scOf d = some v) : x = v ∧ flatV v = true := by
  cases d <;> simp only [scOf] at hv <;> cases hv <;> cases h <;> exact ⟨rfl, rfl⟩
theorem scs_rp : ∀ {xs : List V} {ds : List D} {vs : List V}, xs.length = ds.length → RpI K S (xs.zip ds) → scAll ds = some vs → xs = vs ∧ vs.all flatV = true
  | [], [], vs, _, _, h => by cases h; exact ⟨rfl, rfl⟩
  | [], _ :: _, _, h, _, _ => by cases h
  | _ :: _, [], _, h, _, _ => by cases h
  | x :: xs, d :: ds, vs, hl, r, h => by
    simp only [List.zip_cons_cons] at r
    simp only [scAll] at h
    split at h
    · rename_i v us h1 h2
      cases h
      obtain ⟨rfl, f1⟩ := sc_rp r.head h1
      obtain ⟨rfl, f2⟩ := scs_rp (by simpa using hl) r.tail h2
      exact ⟨rfl, by simp [f1, f2]⟩
    · cases h
def gInF (neg : Bool) : OD → OD → Option OD := fun a b => match a.rd.bind scOf, b.rd with
  | some x, some (.lst ds) => (scAll ds).map fun vs => .st (.bl (if neg then !inV x vs else inV x vs))
  | some x, some (.tup ds) => (scAll ds).map fun vs => .st (.bl (if neg then !inV x vs else inV x vs))
  | some x, some (.kt ds) => (scAll ds).map fun vs => .st (.bl (if neg then !inV x vs else inV x vs))
  | _, _ => none
theorem at_sc {x : V} {o : OD} {v : V} (h : At K S H x o) (hv : o.rd.bind scOf = some v) : x = v ∧ flatV v = true := by
  obtain ⟨d, hd, hs⟩ := Option.bind_eq_some_iff.mp hv
  refine sc_rp (h.plain hd ?_ ?_ ?_) hs <;> intro ds z <;> subst z <;> cases hs
theorem rg_inF {neg : Bool} : RG2 K (rIn K neg) (gInF neg) := by
  intro S H L x y ox oy oz Q w e k
  unfold gInF at e
  split at e
  · rename_i v ds hx hy
    obtain ⟨vs, hv, rfl⟩ := Option.map_eq_some_iff.mp e
    obtain ⟨rfl, f1⟩ := at_sc w.at1 hx
    obtain ⟨ad, us, rfl, ha, hl, hr⟩ := w.at0.lst w.le hy
    obtain ⟨rfl, f2⟩ := scs_rp hl hr hv
    exact ⟨ad, us, rfl, .inl (SqL.of ha), f1, f2, k _ S H (ex_refl S) (w.push (.bl .nil))⟩
  · rename_i v ds hx hy
    obtain ⟨vs, hv, rfl⟩ := Option.map_eq_some_iff.mp e
    obtain ⟨rfl, f1⟩ := at_sc w.at1 hx
    obtain ⟨ad, us, rfl, ha, hl, hr⟩ := w.at0.tup w.le hy
    obtain ⟨rfl, f2⟩ := scs_rp hl hr hv
    exact ⟨ad, us, rfl, .inr (SqT.of (w.le _ _ ha)), f1, f2, k _ S H (ex_refl S) (w.push (.bl .nil))⟩
  · rename_i v ds hx hy
    obtain ⟨vs, hv, rfl⟩ := Option.map_eq_some_iff.mp e
    obtain ⟨rfl, f1⟩ := at_sc w.at1 hx
    cases w.at0.plain hy (by simp) (by simp) (by simp) with
    | kt ha hl hr _ =>
      obtain ⟨rfl, f2⟩ := scs_rp hl hr hv
      exact ⟨_, _, rfl, .inr (ex_t w.le ha), f1, f2, k _ S H (ex_refl S) (w.push (.bl .nil))⟩
  · cases e
/-- one sign in a text -/
def gInS : OD → OD → Option OD := gSS fun i j => match i.cps.toList with
  | [c] => some (.bl (decide (c ∈ j.cps.toList)))
  | _ => none
def rInS : R2 := fun x y H Q => ∃ (c : Nat) (z : Str), x = .str ⟨#[c]⟩ ∧ y = .str z ∧ Q (.bl (decide (c ∈ z.cps.toList))) H
theorem op_inS : OpR X (compareOp .In) rInS := op_in_sign
theorem rg_inS : RG2 K rInS gInS := rg_ss fun i j d h => by
  split at h
  · rename_i c hc
    cases h
    have : i = ⟨#[c]⟩ := by
      cases i with
      | mk cps =>
        have : cps = #[c] := by
          apply Array.toList_inj.mp
          simpa using hc
        rw [this]
    subst this
    exact ⟨_, pl_bl, fun H Q q => ⟨c, j, rfl, rfl, q⟩⟩
  · cases h
def rInQ (K : PySem.W.Frag) : R2 := fun x y H Q => rInS x y H Q ∨ (rIn K false x y H Q ∨ rInD K x y H Q)
theorem op_inQ (hu : X.A.units + 65 < cLine) : OpR X (compareOp .In) (rInQ X.K) := OpR.or op_inS (OpR.or op_in_seq (op_inD hu))
def gInQ := gOr2 gInS (gOr2 (gInF false) gIn)
theorem rg_inQ : RG2 K (rInQ K) gInQ := rg_inS.or (rg_inF.or rg_in)
def rNotInQ (K : PySem.W.Frag) : R2 := fun x y H Q => rIn K true x y H Q ∨ rNotInD K x y H Q
theorem op_notInQ (hu : X.A.units + 65 < cLine) : OpR X (compareOp .NotIn) (rNotInQ X.K) := OpR.or op_notIn_seq (op_notInD hu)
def gNotInQ := gOr2 (gInF true) gNotIn
theorem rg_notInQ : RG2 K (rNotInQ K) gNotInQ := rg_inF.or rg_notIn
/-! ### join -/
def strsOf : List D → Option (List Str)
  | [] => some []
  | .str x :: r => (strsOf r).map (x :: ·)
  | _ :: _ => none
theorem strsOf_map : ∀ xs : List Str, strsOf (xs.map .str) = some xs
  | [] => rfl
  | n :: r => by simp [strsOf, strsOf_map r]
theorem strsOf_eq : ∀ {ds : List D} {xs : List Str}, strsOf ds = some xs → ds = xs.map .str
  | [], bs, h => by cases h; rfl
  | .str i :: r, bs, h => by
    simp only [strsOf, Option.map_eq_some_iff] at h
    obtain ⟨e, h1, rfl⟩ := h
    rw [strsOf_eq h1]; rfl
  | .non :: _, _, h | .int _ :: _, _, h | .bl _ :: _, _, h | .lst _ :: _, _, h | .tup _ :: _, _, h | .dK _ :: _, _, h | .dT _ :: _, _, h | .ins _ _ :: _, _, h | .raw _ :: _, _, h | .scr _ :: _, _, h | .kt _ :: _, _, h => by cases h
theorem rp_strs {S : Hp} : ∀ {vs : List V} {xs : List Str}, vs.length = xs.length → RpI K S (vs.zip (xs.map .str)) → vs = xs.map V.str
  | [], [], _, _ => rfl
  | [], _ :: _, h, _ => by cases h
  | _ :: _, [], h, _ => by cases h
  | v :: vs, n :: bs, h, r => by
    simp only [List.map_cons, List.zip_cons_cons] at r
    have := rp_strs (by simpa using h) r.tail
    subst this
    cases r.head
    rfl
def gJoin : OD → OD → Option OD := fun a b => match a, b.rd with
  | .st (.str z), some (.lst ds) => (match strsOf ds with
    | some ys => if (ys.map (·.length)).sum + ys.length * z.length ≤ big then some (.st (.str (Txt.join z ys))) else none
    | none => none)
  | .st (.str z), some (.tup ds) => (match strsOf ds with
    | some ys => if (ys.map (·.length)).sum + ys.length * z.length ≤ big then some (.st (.str (Txt.join z ys))) else none
    | none => none)
  | _, _ => none
def rJoinQ (K : PySem.W.Frag) : V → List V → Hp → VK → Prop := fun x xs H Q => ∃ a p, ∃ ys : List Str, x = .str a ∧ xs = [.ref p] ∧ (SqL K H p (ys.map V.str) ∨ SqT K H p (ys.map V.str)) ∧ (ys.map (·.length)).sum + ys.length * a.length ≤ 16777216 ∧ Q (.str (Txt.join a ys)) H
theorem re_join (ha : RO K pin ta oa) (hb : RO K pin tb ob) : RE K pin (tM1 (rJoinQ K) ta tb) (fBin gJoin oa ob) := by
  intro S H T ρ σ F Q od ρ' w e k
  unfold fBin at e
  split at e
  · rename_i ox ρ1 q1
    split at e
    · rename_i oy ρ2 q2
      split at e
      · rename_i oz q3
        cases e
        refine ha S H T ρ σ F _ ox ρ1 w q1 fun x S1 H1 e1 w1 rs1 => ?_
        have hx : ∃ z, x = .str z ∧ ox = .st (.str z) := by
          unfold gJoin at q3
          split at q3
          · rename_i z _ _; cases w1.known; exact ⟨z, rfl, rfl⟩
          · rename_i z _ _; cases w1.known; exact ⟨z, rfl, rfl⟩
          · cases q3
        obtain ⟨z, rfl, rfl⟩ := hx
        refine ⟨⟨z, rfl⟩, hb S1 H1 _ ρ1 σ F _ oy ρ2 w1 q2 fun y S2 H2 e2 w2 rs2 => ?_⟩
        have fin : ∀ v : Str, od = .st (.str v) → Q (.str v) H2 := fun v hv => by
          subst hv
          have o3 : Own K S2 H2 [] ((V.str v, .st (.str v)) :: (y, oy) :: (V.str z, .st (.str z)) :: (T ++ (its ρ2 σ ++ F))) := w2.own.push (.str .nil)
          have zz : Sat K pin S2 H2 ((y, oy) :: (V.str z, .st (.str z)) :: (V.str v, .st (.str v)) :: T) ρ2 σ F := w2.with (o3.perm perm3)
          exact k _ S2 H2 (ex_trans e1 e2) (rs1 _ _ _ _ _ (rs2 _ _ _ _ _ zz))
        have w2o : Own K S2 H2 [] ((y, oy) :: (V.str z, .st (.str z)) :: (T ++ (its ρ2 σ ++ F))) := w2.own
        simp only [gJoin] at q3
        split at q3
        · rename_i z' ds hz hy
          cases hz
          split at q3
          · rename_i ys hs
            split at q3
            · rename_i hb'
              cases q3
              obtain ⟨ad, vs, rfl, hA, hl, hr⟩ := w2o.at0.lst w2o.le hy
              rw [strsOf_eq hs] at hl hr
              have := rp_strs (by simpa using hl) hr
              subst this
              exact ⟨z, ad, ys, rfl, rfl, .inl (SqL.of hA), Nat.le_trans hb' (by decide), fin _ rfl⟩
            · cases q3
          · cases q3
        · rename_i z' ds hz hy
          cases hz
          split at q3
          · rename_i ys hs
            split at q3
            · rename_i hb'
              cases q3
              obtain ⟨ad, vs, rfl, hA, hl, hr⟩ := w2o.at0.tup w2o.le hy
              rw [strsOf_eq hs] at hl hr
              have := rp_strs (by simpa using hl) hr
              subst this
              exact ⟨z, ad, ys, rfl, rfl, .inr (SqT.of (w2o.le _ _ hA)), Nat.le_trans hb' (by decide), fin _ rfl⟩
            · cases q3
          · cases q3
        · cases q3
      · cases e
    · cases e
  · cases e
theorem se_join (ha : SO X pin a ta oa) (hb : SO X pin b tb ob) (hs : starEach [b] X.env = [(false, eval b X.env)] := by rfl) (hbase : attributeBase a "join" X.env (eval a X.env) = eval a X.env := by rfl) (hline : (apos.endLine == pos.line) = true := by rfl)
    (hK : X.K = K := by rfl) : SE X pin (.Call (.Attribute a "join" apos) [b] [] pos) (tM1 (rJoinQ K) ta tb) (fBin gJoin oa ob) := by subst hK; exact ⟨pe_join ha.pe hb.pe hs hbase hline, re_join ha.rd hb.rd⟩
/-! ### a list in a slot is changed by its methods -/
def fAppend (i : Nat) (f : Fe) : Fe := fun ρ => match ρ[i]? with
  | some (some (.ol _)) => (match f ρ with
    | some (o, ρ1) => (match ρ1[i]? with
      | some (some (.ol os)) => if os.length ≤ big then some (.st .non, ρ1.set i (some (.ol (os ++ [o])))) else none
      | _ => none)
    | none => none)
  | _ => none
theorem sat_list {T F : List It} {ρ : Rho} {σ : L2.St} {i : Nat} {os : List OD} (w : Sat K pin S H T ρ σ F) (ho : ρ[i]? = some (some (.ol os))) : ∃ p vs, σ[i]? = some (some (.ref p)) ∧ H p = some (.lst vs) ∧ vs.length = os.length ∧ Sat K pin S H ((.ref p, .ol os) :: T) (ρ.set i none) σ F := by
  obtain ⟨v, hv, w1⟩ := w.take ho
  have o1 : Own K S H [] ((v, .ol os) :: (T ++ (its (ρ.set i none) σ ++ F))) := w1.own
  obtain ⟨fp, q⟩ := o1.at0
  cases q with
  | ol a l _ _ => exact ⟨_, _, hv, a, l, w1⟩
theorem re_append {i : Nat} (h : RE K pin t f) : RE K pin (tBM K "list" rAppend (tVar i) (tCons t tNil)) (fAppend i f) := by
  intro S H T ρ σ F Q od ρ' w e k
  unfold fAppend at e
  split at e
  · rename_i os0 h0
    obtain ⟨p0, vs0, hv0, hp0, _, _⟩ := sat_list w h0
    split at e
    · rename_i o ρ1 q1
      split at e
      · rename_i os h1
        split at e
        · rename_i hb
          cases e
          refine ⟨.ref p0, hv0, .inl ⟨rfl, vs0, SqL.of hp0⟩, h S H T ρ σ F _ o ρ1 w q1 fun v S1 H1 e1 w1 => ?_⟩
          obtain ⟨p, vs, hv, hp, hl, w2⟩ := sat_list w1 h1
          rw [hv0] at hv
          cases hv
          have o2 : Own K S1 H1 [] ((v, o) :: (.ref p0, .ol os) :: (T ++ (its (ρ1.set i none) σ ++ F))) := w2.own.perm (.swap _ _ _)
          obtain ⟨vs', hp', hl', o3⟩ := o2.app
          rw [hp] at hp'
          cases hp'
          refine ⟨p0, vs, v, rfl, rfl, hp, by rw [hl]; exact big_lt hb, k _ S1 _ e1 ?_⟩
          have w3 : Sat K pin S1 (upd H1 p0 (.lst (vs ++ [v]))) ((.ref p0, .ol (os ++ [o])) :: T) (ρ1.set i none) σ F := w2.with o3
          have w4 := w3.back hv0
          rw [List.set_set] at w4
          exact w4.push (.non .nil)
        · cases e
      · cases e
    · cases e
  · cases e
theorem se_append {i : Nat} {x : Str} {p2 : Pos} (h : SE X pin e t f) (hN : X.N[i]? = some x := by rfl) (hv : Vis X.env.scope x := by first | exact Or.inl rfl | exact Or.inr (Or.inl rfl) | exact Or.inr (Or.inr rfl)) (hd : (x == ("__debug__" : Str)) = false := by decide) (hcd : (x == ("__classdict__" : Str)) = false := by decide)
    (hbase : attributeBase (.Name x p2) "append" X.env (eval (.Name x p2) X.env) = eval (.Name x p2) X.env := by rfl)
    (hfew : ((backTo pos (starEach [e] X.env)).all (fun x => !x.1) && (backToKw pos (keywordEach [] X.env)).all (fun x => x.1.isSome) && decide (([e] : List Expr).length + ([] : List Keyword).length + (if ([] : List Keyword).isEmpty then 0 else 1) < 30)) = true := by rfl)
    (hline : (apos.endLine == pos.line) = true := by rfl) (hs : starEach [e] X.env = (false, eval e X.env) :: starEach [] X.env := by rfl) : SE X pin (.Call (.Attribute (.Name x p2) "append" apos) [e] [] pos) (tBM X.K "list" rAppend (tVar i) (tCons t tNil)) (fAppend i f) :=
  ⟨pe_bm PySem.F.plainAttrs_list PySem.F.slot_list_append PySem.F.type_list_append mt_append (pe_var hN hv hd hcd) (pa_cons h.pe pa_nil hs) hbase hfew hline hs rfl, re_append h.rd⟩
def fExtend (i : Nat) (f : Fe) : Fe := fun ρ => match ρ[i]? with
  | some (some (.ol _)) => (match f ρ with
    | some (.ol os', ρ1) => (match ρ1[i]? with
      | some (some (.ol os)) => if os.length + os'.length ≤ big then some (.st .non, ρ1.set i (some (.ol (os ++ os')))) else none
      | _ => none)
    | _ => none)
  | _ => none
theorem re_extend {i : Nat} (h : RE K pin t f) : RE K pin (tBM K "list" rExtend (tVar i) (tCons t tNil)) (fExtend i f) := by
  intro S H T ρ σ F Q od ρ' w e k
  unfold fExtend at e
  split at e
  · rename_i os0 h0
    obtain ⟨p0, vs0, hv0, hp0, _, _⟩ := sat_list w h0
    split at e
    · rename_i os' ρ1 q1
      split at e
      · rename_i os h1
        split at e
        · rename_i hb
          cases e
          refine ⟨.ref p0, hv0, .inl ⟨rfl, vs0, SqL.of hp0⟩, h S H T ρ σ F _ _ ρ1 w q1 fun v S1 H1 e1 w1 => ?_⟩
          obtain ⟨p, vs, hv, hp, hl, w2⟩ := sat_list w1 h1
          rw [hv0] at hv
          cases hv
          have o2 : Own K S1 H1 [] ((.ref p0, .ol os) :: (v, .ol os') :: (T ++ (its (ρ1.set i none) σ ++ F))) := w2.own
          obtain ⟨fp, q⟩ := o2.at1
          have hvr : ∃ b, v = .ref b := by cases q with | ol a l _ _ => exact ⟨_, rfl⟩
          obtain ⟨b, rfl⟩ := hvr
          obtain ⟨us, hb1, hb2, _, o3⟩ := (o2.perm (.swap _ _ _)).open_
          have o4 : Own K S1 H1 [b] ((.ref p0, .ol os) :: (us.zip os' ++ (T ++ (its (ρ1.set i none) σ ++ F)))) := o3.perm List.perm_middle
          obtain ⟨vs', hp', hl', hne, o5⟩ := o4.open_
          rw [hp] at hp'
          cases hp'
          refine ⟨p0, b, vs, us, rfl, rfl, hp, hb1, big_le (by omega), k _ S1 _ e1 ?_⟩
          have o6 : Own K S1 H1 [p0] ((vs ++ us).zip (os ++ os') ++ (T ++ (its (ρ1.set i none) σ ++ F))) := by
            rw [zip_app hl', List.append_assoc]
            obtain ⟨x1, fp', x2, x3, x4, x5⟩ := o5
            exact ⟨x1, fp', x2, x3, x4, fun q hq => x5 q (by have : q = p0 := by simpa using hq
                                                             subst this; exact List.mem_cons_self)⟩
          have w3 : Sat K pin S1 (upd H1 p0 (.lst (vs ++ us))) ((.ref p0, .ol (os ++ os')) :: T) (ρ1.set i none) σ F := w2.with (o6.close (by simp; omega) (by simp))
          have w4 := w3.back hv0
          rw [List.set_set] at w4
          exact w4.push (.non .nil)
        · cases e
      · cases e
    · cases e
  · cases e
theorem se_extend {i : Nat} {x : Str} {p2 : Pos} (h : SE X pin e t f) (hN : X.N[i]? = some x := by rfl) (hv : Vis X.env.scope x := by first | exact Or.inl rfl | exact Or.inr (Or.inl rfl) | exact Or.inr (Or.inr rfl)) (hd : (x == ("__debug__" : Str)) = false := by decide) (hcd : (x == ("__classdict__" : Str)) = false := by decide)
    (hbase : attributeBase (.Name x p2) "extend" X.env (eval (.Name x p2) X.env) = eval (.Name x p2) X.env := by rfl)
    (hfew : ((backTo pos (starEach [e] X.env)).all (fun x => !x.1) && (backToKw pos (keywordEach [] X.env)).all (fun x => x.1.isSome) && decide (([e] : List Expr).length + ([] : List Keyword).length + (if ([] : List Keyword).isEmpty then 0 else 1) < 30)) = true := by rfl)
    (hline : (apos.endLine == pos.line) = true := by rfl) (hs : starEach [e] X.env = (false, eval e X.env) :: starEach [] X.env := by rfl) : SE X pin (.Call (.Attribute (.Name x p2) "extend" apos) [e] [] pos) (tBM X.K "list" rExtend (tVar i) (tCons t tNil)) (fExtend i f) :=
  ⟨pe_bm PySem.F.plainAttrs_list PySem.F.slot_list_extend PySem.F.type_list_extend mt_extend (pe_var hN hv hd hcd) (pa_cons h.pe pa_nil hs) hbase hfew hline hs rfl, re_extend h.rd⟩
/-! ### x[k] = .. -/
theorem Own.put {p : Addr} {os : List OD} {v : V} {o : OD} {L : List It} {j : Nat} (h : Own K S H [] ((v, o) :: (.ref p, .ol os) :: L)) (hj : j < os.length) : ∃ vs, H p = some (.lst vs) ∧ vs.length = os.length ∧ Own K S (upd H p (.lst (vs.set j v))) [] ((.ref p, .ol (os.set j o)) :: L) := by
  obtain ⟨vs, h1, h2, h3, h4⟩ := (h.perm (.swap _ _ _)).open_
  refine ⟨vs, h1, h2, Own.close (Own.sub h4 ?_) (by simp [h2]) h3⟩
  have hz : (vs.set j v).zip (os.set j o) = (vs.zip os).set j (v, o) := by
    apply List.ext_getElem?
    intro i
    by_cases hi : i = j
    · subst hi
      have q1 : (vs.set i v)[i]? = some v := List.getElem?_set_self (by omega)
      have q2 : (os.set i o)[i]? = some o := List.getElem?_set_self (by omega)
      rw [List.getElem?_set_self (by simp; omega)]
      rw [List.getElem?_zip_eq_some]
      exact ⟨q1, q2⟩
    · rw [List.getElem?_set_ne (Ne.symm hi)]
      simp only [List.zip, List.getElem?_zipWith, List.getElem?_set_ne (Ne.symm hi)]
  have hj' : j < (vs.zip os).length := by simp; omega
  refine ⟨[(vs.zip os)[j]], ?_⟩
  rw [hz]
  have key : ((v, o) :: vs.zip os).Perm ((vs.zip os)[j] :: (vs.zip os).set j (v, o)) := by
    have e1 : vs.zip os = (vs.zip os).take j ++ (vs.zip os)[j] :: (vs.zip os).drop (j + 1) := by rw [List.getElem_cons_drop, List.take_append_drop]
    have e2 : (vs.zip os).set j (v, o) = (vs.zip os).take j ++ (v, o) :: (vs.zip os).drop (j + 1) := by
      rw [List.set_eq_take_append_cons_drop, if_pos hj']
    rw [e2]
    refine .trans (.cons _ (.of_eq e1)) ?_
    refine .trans (.cons _ List.perm_middle) ?_
    refine .trans (.swap _ _ _) ?_
    exact .cons _ List.perm_middle.symm
  refine (List.perm_middle (l₁ := vs.zip os) (l₂ := L) (a := (v, o))).trans ?_
  exact key.append_right L
def gSetI (i : Nat) (f : Fe) : Fg := fun o ρ => match ρ[i]? with
  | some (some (.ol _)) => (match f ρ with
    | some (.st (.int k), ρ1) => (match ρ1[i]? with
      | some (some (.ol os)) => (match ixN os.length k with
        | some j => some (ρ1.set i (some (.ol (os.set j o))))
        | none => none)
      | _ => none)
    | _ => none)
  | _ => none
theorem rgt_set {i : Nat} (h : RE K pin t f) : RG K pin [] (L2.gSub (tVar i) t rSetL) (gSetI i f) := by
  intro S H T ρ σ F v o Q ρ' w e k
  unfold gSetI at e
  split at e
  · rename_i os0 h0
    obtain ⟨p0, vs0, hv0, hp0, _, _⟩ := sat_list w h0
    split at e
    · rename_i kk ρ1 q1
      split at e
      · rename_i os h1
        split at e
        · rename_i j hj
          cases e
          refine ⟨.ref p0, hv0, h S H _ ρ σ F _ _ ρ1 w q1 fun u S1 H1 e1 w1 => ?_⟩
          cases w1.known
          obtain ⟨p, vs, hv, hp, hl, w2⟩ := sat_list w1.tl h1
          rw [hv0] at hv
          cases hv
          have hjl : j < os.length := (ixN_seq hj).2.1
          have o2 : Own K S1 H1 [] ((v, o) :: (.ref p0, .ol os) :: (T ++ (its (ρ1.set i none) σ ++ F))) := w2.own.perm (.swap _ _ _)
          obtain ⟨vs', hp', hl', o3⟩ := o2.put hjl
          rw [hp] at hp'
          cases hp'
          refine ⟨p0, vs, kk, j, rfl, rfl, hp, by rw [hl]; exact hj, k S1 _ σ e1 (Only.refl σ) ?_⟩
          have w3 : Sat K pin S1 (upd H1 p0 (.lst (vs.set j v))) ((.ref p0, .ol (os.set j o)) :: T) (ρ1.set i none) σ F := w2.with o3
          have w4 := w3.back hv0
          rw [List.set_set] at w4
          exact w4
        · cases e
      · cases e
    · cases e
  · cases e
theorem sg_set {i : Nat} {x : Str} {p2 : Pos} (h : SE X pin e t f) (hN : X.N[i]? = some x := by rfl) (hv : Vis X.env.scope x := by first | exact Or.inl rfl | exact Or.inr (Or.inl rfl) | exact Or.inr (Or.inr rfl)) (hd : (x == ("__debug__" : Str)) = false := by decide) (hcd : (x == ("__classdict__" : Str)) = false := by decide)
    (ha : ∀ v, assign (.Subscript (.Name x p2) e pos) X.env v = (do
      let ov ← holding [v] (eval (.Name x p2) X.env)
      let iv ← holding [v, ov] (eval e X.env)
      standAt pos
      holding [v, ov, iv] (setItem ov iv v)
      release [v, ov, iv] []) := by intro _; rfl) : SG X pin [] (.Subscript (.Name x p2) e pos) (L2.gSub (tVar i) t rSetL) (gSetI i f) := ⟨pg_sub (pe_var hN hv hd hcd) h.pe set_list ha, rgt_set h.rd⟩
end
end Qy
set_option Elab.async false
set_option linter.all false
set_option maxRecDepth 100000
set_option maxHeartbeats 400000
namespace Qy
open PySem PySem.Spec PyProof.Rows L2
/-- what a def makes, as its body runs -/
def runM (B : List Bool) (N : List Str) (F : Fs) : Mir := fun ods => match F (rho0 N ods) with
  | some (.rt r ρ') => some (r, outsOf B ρ')
  | some (.nx ρ') => some (.st .non, outsOf B ρ')
  | _ => none
theorem mk_run {K : PySem.W.Frag} {P : Program} {w : World} {mg : Str → Option Value} {base : Heap} {x qual : Str} {dvs : List V} {kws : List (Str × V)} {st : Stmt} {f : Addr} {fd : FuncData} {N ps : List Str} {k : Nat} (F : FunD K x qual (defArgs st) (defBody st) (defScope st) dvs kws f fd) (Sc : FnScope N ps (defScope st)) (B : List Bool) (Fb : Fs)
    (hbody : ∀ cdv A outer s H E pin, A.guards = some [] → Room k (A.deeper (envOfC qual (defScope st) s.heap.objs.size f cdv)) → (∀ i, B[i]? ≠ some true → NoPin pin i) → ∃ t, SB (cxOf CX0 P w K mg base N qual (defScope st) f cdv A outer s H E).nox pin (defBody st) t Fb) :
    FnG P w K mg base CX0 (k + 1) f fd ps (spM K ps.length (runM B N Fb)) := by
  refine mk_fn F Sc B (fun _ => Fb) (fun ods r outs h _ => ?_) fun _ => hbody
  unfold runM at h
  split at h
  · rename_i r' ρ' q; cases h; exact ⟨0, ρ', .inl q, rfl⟩
  · rename_i ρ' q; cases h; exact ⟨0, ρ', .inr ⟨q, rfl⟩, rfl⟩
  · cases h
section
variable {X : Cx} {pin : List (Option V)} {pos : Pos} {K : PySem.W.Frag}
theorem u67 {k : Nat} {A : Around} (hr : Room k A) : A.units + 67 < cLine := by have := hr.un; omega
theorem u66 {k : Nat} {A : Around} (hr : Room k A) : A.units + 66 < cLine := by have := hr.un; omega
theorem u65 {k : Nat} {A : Around} (hr : Room k A) : A.units + 65 < cLine := by have := hr.un; omega
theorem u64 {k : Nat} {A : Around} (hr : Room k A) : A.units + 64 < cLine := by have := hr.un; omega
theorem u0 {k : Nat} {A : Around} (hr : Room k A) : A.units < cLine := by have := hr.un; omega
theorem se_ty {x : Str} {n : String} (hm : X.mg x = none) (hv : bootBuiltins x = some (.type n)) (hg : Gl X x := by rfl) (hn : x ≠ "__name__" := by decide) (hd : (x == ("__debug__" : Str)) = false := by decide) : SE X pin (.Name x pos) (tC (.ty n)) (fC (.raw (.ty n))) := se_bltn hg hm hv rfl hn hd
theorem se_gint {x : Str} {i : Int} (h : ∃ t, X.mg x = some (.int i t)) (hg : Gl X x := by rfl) (hd : (x == ("__debug__" : Str)) = false := by decide) : SE X pin (.Name x pos) (tC (.int i)) (fC (.int i)) := by
  obtain ⟨t, h⟩ := h
  exact se_glob hg h ⟨t, rfl⟩ (fun _ => .int .nil) hd
theorem se_gstr {x z : Str} (h : ∃ t, X.mg x = some (.str z t)) (hg : Gl X x := by rfl) (hd : (x == ("__debug__" : Str)) = false := by decide) : SE X pin (.Name x pos) (tC (.str z)) (fC (.str z)) := by
  obtain ⟨t, h⟩ := h
  exact se_glob hg h ⟨t, rfl⟩ (fun _ => .str .nil) hd
def rLtQ (K : PySem.W.Frag) : R2 := fun x y H Q => rI0 (fun i j => .bl (decide (i < j))) x y H Q ∨ ((∃ i j, x = .str i ∧ y = .str j ∧ Q (.bl (decide (i.cps.toList < j.cps.toList))) H) ∨ rLtT K x y H Q)
theorem op_ltQ (hu : X.A.units < cLine) : OpR X (compareOp .Lt) (rLtQ X.K) := OpR.or op_lt (OpR.or op_lt_str (op_ltT hu))
theorem rg_ltQ : RG2 K (rLtQ K) gLt := rg_lt.or (rg_ltS.or rg_ltT)
/-- enumerate(x) of a list -/
def enumD (ds : List D) : List D := ds.zipIdx.map fun p => .tup [.int (p.2 : Nat), p.1]
def fItE (f : Fa) : Fi := fun ρ => match f ρ with
  | some ([.st (.lst ds)], ρ') => some (enumD ds, ρ')
  | _ => none
theorem ri_enum {t : TA} {f : Fa} (h : RA K pin t f) : RI K pin (iEnum K t) (fItE f) := by
  intro S H T ρ σ F R ds ρ' w e k
  unfold fItE at e
  split at e
  · rename_i ds0 ρ1 q
    cases e
    refine h S H T ρ σ F _ _ _ w q fun vs S' H' x hl w' => ?_
    match vs, hl with
    | [v], hl1 =>
      cases (show Rp K S' v (.lst ds0) from w'.known) with
      | lst a b c q9 =>
        rename_i ad xs
        have hn : (enumD ds0).length = xs.length := by simp [enumD, b]
        refine ⟨ad, xs, rfl, SqL.of (w'.le _ _ a), k (Ite K ad) _ _ S' H' x w'.tl (by rw [hn]; exact walk_enum) (fun H2 e2 => SqL.of (e2 _ _ a)) fun i d H2 y H3 S2 L hd e2 o2 hy => ?_⟩
        obtain ⟨T2, x1, x2, rfl, hT, rfl, h1, h2⟩ := hy
        cases h1
        have hd' : ∃ d0, ds0[i]? = some d0 ∧ d = .tup [.int (i : Nat), d0] := by
          simp only [enumD, List.getElem?_map, List.getElem?_zipIdx] at hd
          cases q0 : ds0[i]? with
          | none => rw [q0] at hd; cases hd
          | some d0 => rw [q0] at hd; exact ⟨d0, rfl, by simpa using hd.symm⟩
        obtain ⟨d0, hd0, rfl⟩ := hd'
        have rp := (rp_at c h2 hd0).mono e2
        obtain ⟨e5, o5⟩ := Own.newT (vs := [.int (i : Nat), x2]) (ds := [.int (i : Nat), d0]) o2 (.int (RpI.cons rp .nil)) rfl hT
        exact ⟨_, e5, o5⟩
  · cases e
theorem si_enum {elts : List Expr} {kk : Nat} {tpos p : Pos} {e : Expr} {t : TA} {f : Fa} (hm : X.mg "enumerate" = none) (h : SA X pin [e] t f) (hg : Gl X "enumerate" := by rfl) (hs : starEach [e] X.env = [(false, eval e X.env)] := by rfl) (hK : X.K = K := by rfl) : SI X pin (.Tuple elts kk tpos) (.Call (.Name "enumerate" p) [e] [] pos) (iEnum K t) (fItE f) := by subst hK; exact ⟨pi_enum hg hm h.pe hs, ri_enum h.rd⟩
end
end Qy
set_option Elab.async false
set_option linter.all false
set_option maxRecDepth 100000
set_option maxHeartbeats 400000
/-! Dicts whose keys are ints or texts, their values stable. -/
namespace Qy
open PySem PySem.Spec PyProof.Rows L2
def keyD : D → Option Key
  | .int i => some (.inl i)
  | .str x => some (.inr x)
  | _ => none
def valA {α : Type} (kvs : List (Key × α)) (k : Key) : Option α := (kvs.find? fun kv => decide (kv.1 = k)).map (·.2)
def putA {α : Type} (kvs : List (Key × α)) (k : Key) (v : α) : List (Key × α) :=
  if (kvs.any fun kv => decide (kv.1 = k)) = true then kvs.map (fun kv => if kv.1 = k then (kv.1, v) else kv) else kvs ++ [(k, v)]
def mergeA {α : Type} (kvs more : List (Key × α)) : List (Key × α) := more.foldl (fun acc kv => putA acc kv.1 kv.2) kvs
/-- the pairs of a dict, as values and as trees -/
def RpK (K : PySem.W.Frag) (S : Hp) : List (Key × V) → List (Key × D) → Prop
  | [], [] => True
  | p :: ks, q :: ds => p.1 = q.1 ∧ Rp K S p.2 q.2 ∧ RpK K S ks ds
  | _, _ => False
section
variable {X : Cx} {pin : List (Option V)} {K : PySem.W.Frag} {S S' H : Hp} {e a b c : Expr} {t ta tb tc : TE} {f : Fe} {oa ob : Fo} {pos p apos : Pos} {L : List It}
theorem keyD_rp {v : V} {d : D} {k : Key} (h : Rp K S v d) (e : keyD d = some k) : v = kV k := by
  cases d with
  | int i => cases e; cases h; rfl
  | str i => cases e; cases h; rfl
  | _ => cases e
theorem rpk_iff : ∀ {ks : List (Key × V)} {ds : List (Key × D)}, RpK K S ks ds ↔ (ks.map (·.1) = ds.map (·.1) ∧ RpI K S ((ks.map (·.2)).zip (ds.map (·.2))))
  | [], [] => ⟨fun _ => ⟨rfl, .nil⟩, fun _ => trivial⟩
  | [], _ :: _ => ⟨fun h => h.elim, fun h => by simp at h⟩
  | _ :: _, [] => ⟨fun h => h.elim, fun h => by simp at h⟩
  | p :: ks, q :: ds => ⟨fun ⟨h1, h2, h3⟩ => by
      obtain ⟨e1, e2⟩ := rpk_iff.mp h3
      exact ⟨by simp [h1, e1], .cons h2 e2⟩, fun ⟨h1, h2⟩ => by
      simp only [List.map_cons, List.cons.injEq] at h1
      exact ⟨h1.1, h2.head, rpk_iff.mpr ⟨h1.2, h2.tail⟩⟩⟩
theorem RpK.mono (x : Ex S S') : ∀ {ks : List (Key × V)} {ds : List (Key × D)}, RpK K S ks ds → RpK K S' ks ds
  | [], [], _ => trivial
  | _ :: _, _ :: _, ⟨h1, h2, h3⟩ => ⟨h1, h2.mono x, RpK.mono x h3⟩
theorem RpK.len : ∀ {ks : List (Key × V)} {ds : List (Key × D)}, RpK K S ks ds → ks.length = ds.length
  | [], [], _ => rfl
  | _ :: _, _ :: _, ⟨_, _, h3⟩ => by simp [h3.len]
theorem RpK.val (k : Key) : ∀ {ks : List (Key × V)} {ds : List (Key × D)}, RpK K S ks ds → (valV ks k = none ∧ valA ds k = none) ∨ ∃ v d, valV ks k = some v ∧ valA ds k = some d ∧ Rp K S v d
  | [], [], _ => .inl ⟨rfl, rfl⟩
  | p :: ks, q :: ds, ⟨h1, h2, h3⟩ => by
    by_cases e : q.1 = k
    · exact .inr ⟨p.2, q.2, valV_pos (h1.trans e), by simp [valA, List.find?_cons, e], h2⟩
    · have e' : ¬ p.1 = k := fun z => e (h1 ▸ z)
      have q2 : valA (q :: ds) k = valA ds k := by simp [valA, List.find?_cons, e]
      rw [valV_neg e', q2]
      exact h3.val k
theorem RpK.any (k : Key) : ∀ {ks : List (Key × V)} {ds : List (Key × D)}, RpK K S ks ds → (ks.any fun kv => decide (kv.1 = k)) = (ds.any fun kv => decide (kv.1 = k))
  | [], [], _ => rfl
  | p :: ks, q :: ds, ⟨h1, _, h3⟩ => by rw [List.any_cons, List.any_cons, h3.any k, h1]
theorem RpK.app : ∀ {ks ks' : List (Key × V)} {ds ds' : List (Key × D)}, RpK K S ks ds → RpK K S ks' ds' → RpK K S (ks ++ ks') (ds ++ ds')
  | [], _, [], _, _, h => h
  | _ :: _, _, _ :: _, _, ⟨h1, h2, h3⟩, h => ⟨h1, h2, h3.app h⟩
theorem RpK.sets {v : V} {d : D} (k : Key) (hv : Rp K S v d) : ∀ {ks : List (Key × V)} {ds : List (Key × D)}, RpK K S ks ds → RpK K S (ks.map fun kv => if kv.1 = k then (kv.1, v) else kv) (ds.map fun kv => if kv.1 = k then (kv.1, d) else kv)
  | [], [], _ => trivial
  | p :: ks, q :: ds, ⟨h1, h2, h3⟩ => by
    refine ⟨?_, ?_, h3.sets k hv⟩
    · by_cases e : q.1 = k
      · simp [h1, e]
      · simp [h1, e]
    · by_cases e : q.1 = k
      · simp [h1, e, hv]
      · simp [h1, e, h2]
theorem RpK.put {v : V} {d : D} (k : Key) (hv : Rp K S v d) {ks : List (Key × V)} {ds : List (Key × D)} (h : RpK K S ks ds) : RpK K S (putK ks k v) (putA ds k d) := by
  unfold putK putA
  rw [h.any k]
  by_cases q : (ds.any fun kv => decide (kv.1 = k)) = true
  · rw [if_pos q, if_pos q]; exact h.sets k hv
  · rw [if_neg q, if_neg q]; exact h.app ⟨rfl, hv, trivial⟩
theorem RpK.merge : ∀ {ms : List (Key × V)} {md : List (Key × D)} {ks : List (Key × V)} {ds : List (Key × D)}, RpK K S ms md → RpK K S ks ds → RpK K S (mergeK ks ms) (mergeA ds md)
  | [], [], _, _, _, h => h
  | p :: ms, q :: md, ks, ds, ⟨h1, h2, h3⟩, h => by
    have h4 : RpK K S (putK ks p.1 p.2) (putA ds q.1 q.2) := by rw [h1]; exact h.put q.1 h2
    exact RpK.merge (ms := ms) (md := md) h3 h4
/-! ### dicts that are owned -/
abbrev stD (ds : List (Key × D)) : List (Key × OD) := ds.map fun p => (p.1, .st p.2)
theorem Own.dictK {x : V} {kvs : List (Key × OD)} (h : Own K S H [] ((x, .oK kvs) :: L)) : ∃ p, x = .ref p := by
  obtain ⟨_, fp, w, _⟩ := h
  cases w with
  | oK a _ _ _ => exact ⟨_, rfl⟩
theorem Own.setK {q : Addr} {ks' : List (Key × V)} {ds : List (Key × D)} {kvs : List (Key × OD)} (h : Own K S H [] ((.ref q, .oK kvs) :: L)) (r : RpK K S ks' ds) : Own K S (upd H q (.dK ks')) [] ((.ref q, .oK (stD ds)) :: L) := by
  obtain ⟨le, fp, w, nd, sn, _⟩ := h
  cases w with
  | @oK _ ks0 _ _ f1 f2 a l c tl =>
    have sq := sn q List.mem_cons_self
    have nd' := List.nodup_cons.mp nd
    obtain ⟨e1, e2⟩ := rpk_iff.mp r
    refine ⟨ex_upd le sq, q :: ([] ++ f2), .oK upd_same (by rw [e1]; simp) ?_ (OwI.mono (H' := upd H q (.dK ks')) tl (ex_refl S) fun x hx => upd_ne fun (z : x = q) => nd'.1 (by rw [← z]; exact List.mem_append_right _ hx)), ?_, ?_, fun _ z => nomatch z⟩
    · have := owi_st (H := upd H q (.dK ks')) e2
      rw [List.map_map] at this ⊢
      exact this
    · exact List.nodup_cons.mpr ⟨fun z => nd'.1 (List.mem_append_right _ z), (List.nodup_append.mp nd'.2).2.1⟩
    · intro x hx
      rcases List.mem_cons.mp hx with rfl | hx
      · exact sq
      · exact sn x (List.mem_cons_of_mem _ (List.mem_append_right _ hx))
theorem Own.newK {q : Addr} {ks : List (Key × V)} {ds : List (Key × D)} (h : Own K S H [] L) (r : RpK K S ks ds) (n : H q = none) : Own K S (upd H q (.dK ks)) [] ((.ref q, .oK (stD ds)) :: L) := by
  obtain ⟨le, fp, w, nd, sn, _⟩ := h
  have sq : S q = none := ex_none le n
  have nq : q ∉ fp := fun z => by
    obtain ⟨u, hu⟩ := w.there q z
    rw [n] at hu; cases hu
  obtain ⟨e1, e2⟩ := rpk_iff.mp r
  refine ⟨ex_upd le sq, q :: ([] ++ fp), .oK upd_same (by rw [e1]; simp) ?_ (w.mono (ex_refl S) fun x hx => upd_ne fun z => nq (z ▸ hx)), List.nodup_cons.mpr ⟨nq, nd⟩, ?_, fun _ z => nomatch z⟩
  · have := owi_st (H := upd H q (.dK ks)) e2
    rw [List.map_map] at this ⊢
    exact this
  · intro x hx
    rcases List.mem_cons.mp hx with rfl | hx
    · exact sq
    · exact sn x hx
theorem At.dKr {x : V} {o : OD} {ds : List (Key × D)} (h : At K S H x o) (e : Ex S H) (r : o.rd = some (.dK ds)) : ∃ a ks, x = .ref a ∧ H a = some (.dK ks) ∧ RpK K S ks ds := by
  obtain ⟨a, ks, h1, h2, h3, h4⟩ := h.dK e r
  exact ⟨a, ks, h1, h2, rpk_iff.mpr ⟨h3, h4⟩⟩
/-! ### d[k], in, not in -/
def gDGet : OD → OD → Option OD := fun x y => match x.rd, y with
  | some (.dK ds), .st d => (match keyD d with
    | some k => (valA ds k).map .st
    | none => none)
  | _, _ => none
def gDIn (neg : Bool) : OD → OD → Option OD := fun y x => match x.rd, y with
  | some (.dK ds), .st d => (match keyD d with
    | some k => some (.st (.bl (xor neg (valA ds k).isSome)))
    | none => none)
  | _, _ => none
theorem se_or2 {t1 t2 : TE} {g1 g2 : OD → OD → Option OD} {oa ob : Fo} (h1 : SE X pin e t1 (fBin g1 oa ob)) (h2 : SE X pin e t2 (fBin g2 oa ob)) : SE X pin e (fun σ H Q => t1 σ H Q ∨ t2 σ H Q) (fBin (gOr2 g1 g2) oa ob) := by
  refine ⟨⟨fun pins s σ H Q I h => ?_⟩, fun S H T ρ σ F Q od ρ' w q k => ?_⟩
  · rcases h with h | h
    · exact h1.pe.run pins s σ H Q I h
    · exact h2.pe.run pins s σ H Q I h
  · unfold fBin gOr2 at q
    cases qa : oa.1 ρ with
    | none => rw [qa] at q; cases q
    | some pa =>
      obtain ⟨x, ρ1⟩ := pa
      rw [qa] at q
      simp only at q
      cases qb : ob.1 ρ1 with
      | none => rw [qb] at q; cases q
      | some pb =>
        obtain ⟨y, ρ2⟩ := pb
        rw [qb] at q
        simp only at q
        cases q1 : g1 x y with
        | some z =>
          rw [q1] at q
          exact .inl (h1.rd S H T ρ σ F Q od ρ' w (by unfold fBin; rw [qa]; simp only; rw [qb]; simp only; rw [q1]; exact q) k)
        | none =>
          rw [q1] at q
          exact .inr (h2.rd S H T ρ σ F Q od ρ' w (by unfold fBin; rw [qa]; simp only; rw [qb]; exact q) k)
theorem re_dget {oa ob : Fo} (ha : RO K pin ta oa) (hb : RO K pin tb ob) : RE K pin (tDGet ta tb) (fBin gDGet oa ob) := by
  have hr : RG2 K (fun x y H Q => ∃ a v, x = .ref a ∧ DGet H a y (some v) ∧ Q v H) gDGet := by
    intro S H L x y ox oy oz Q w q k
    unfold gDGet at q
    split at q
    · rename_i ds d hx
      split at q
      · rename_i kk hk
        obtain ⟨d', hd, rfl⟩ := Option.map_eq_some_iff.mp q
        obtain ⟨ad, ks, rfl, hA, r⟩ := w.at1.dKr w.le hx
        have hy := keyD_rp w.at0.st hk
        subst hy
        rcases r.val kk with ⟨_, z⟩ | ⟨v, d2, h1, h2, h3⟩
        · rw [z] at hd; cases hd
        · rw [hd] at h2; cases h2
          exact ⟨ad, v, rfl, h1 ▸ DGet.k hA, k v S H (ex_refl S) (w.push h3)⟩
      · cases q
    · cases q
  exact re_bin (r := fun x y H Q => ∃ a v, x = .ref a ∧ DGet H a y (some v) ∧ Q v H) ha hb hr
/-- x[k] of a list, tuple, text or dict -/
theorem se_ixD (hu : X.A.units + 1 < cLine) (ha : SO X pin a ta oa) (hb : SO X pin b tb ob) (hs : PlainIx b := by exact fun _ _ => rfl) (hK : X.K = K := by rfl) : SE X pin (.Subscript a b pos) (fun σ H Q => tOp (rIx K) ta tb σ H Q ∨ tDGet ta tb σ H Q) (fBin (gOr2 gIx gDGet) oa ob) := by
  subst hK
  exact se_or2 (se_ix ha hb hs) ⟨pe_dget hu ha.pe hb.pe hs, re_dget ha.rd hb.rd⟩
def rDIn (neg : Bool) : R2 := fun y x H Q => ∃ a o, x = .ref a ∧ DGet H a y o ∧ Q (.bl (xor neg o.isSome)) H
theorem op_din (hu : X.A.units + 1 < cLine) : OpR X (compareOp .In) (rDIn false) := by
  intro pins s σ H y x v u Q I ry rx ⟨a, o, ex, g, q⟩
  subst ex
  cases rx
  refine d_in hu I g ry fun s3 I3 => ⟨.bl o.isSome, H, I3, rfl, ?_⟩
  simpa using q
theorem op_dnotin (hu : X.A.units + 1 < cLine) : OpR X (compareOp .NotIn) (rDIn true) := by
  intro pins s σ H y x v u Q I ry rx ⟨a, o, ex, g, q⟩
  subst ex
  cases rx
  refine d_notIn hu I g ry fun s3 I3 => ⟨.bl (!o.isSome), H, I3, rfl, ?_⟩
  simpa using q
theorem rg_din {neg : Bool} : RG2 K (rDIn neg) (gDIn neg) := by
  intro S H L x y ox oy oz Q w q k
  unfold gDIn at q
  split at q
  · rename_i ds d hx
    split at q
    · rename_i kk hk
      cases q
      obtain ⟨ad, ks, rfl, hA, r⟩ := w.at0.dKr w.le hx
      have hy := keyD_rp w.at1.st hk
      subst hy
      have hs : (valV ks kk).isSome = (valA ds kk).isSome := by
        rcases r.val kk with ⟨z1, z2⟩ | ⟨v, d2, h1, h2, _⟩
        · rw [z1, z2]; rfl
        · rw [h1, h2]; rfl
      exact ⟨ad, _, rfl, DGet.k hA, by rw [hs]; exact k _ S H (ex_refl S) (w.push (.bl .nil))⟩
    · cases q
  · cases q
/-! ### d.get(k, x) -/
def fGet2 (a : Fo) (fk fx : Fe) : Fe := fun ρ => match a.1 ρ with
  | some (od, ρ1) => (match fk ρ1 with
    | some (.st dk, ρ2) => (match fx ρ2 with
      | some (ox, ρ3) => (match od.rd, keyD dk with
        | some (.dK ds), some k => (match valA ds k with
          | some d => some (.st d, a.2 od ρ3)
          | none => some (ox, a.2 od ρ3))
        | _, _ => none)
      | none => none)
    | _ => none)
  | none => none
theorem re_get2 {fk fx : Fe} (ha : RO K pin ta oa) (hk : RE K pin tb fk) (hx : RE K pin tc fx) : RE K pin (tDGet2 ta tb tc) (fGet2 oa fk fx) := by
  intro S H T ρ σ F Q od ρ' w q k
  unfold fGet2 at q
  split at q
  · rename_i o1 ρ1 q1
    split at q
    · rename_i dk ρ2 q2
      split at q
      · rename_i ox ρ3 q3
        split at q
        · rename_i ds kk hd hkey
          refine ha S H T ρ σ F _ o1 ρ1 w q1 fun x S1 H1 e1 w1 rs => ?_
          obtain ⟨ad, ks, rfl, hA, r⟩ := w1.own.at0.dKr w1.le hd
          refine ⟨ad, rfl, .inl ⟨ks, .inl hA⟩, hk S1 H1 _ ρ1 σ F _ _ ρ2 w1 q2 fun y S2 H2 e2 w2 => ?_⟩
          have hy := keyD_rp w2.known hkey
          subst hy
          refine hx S2 H2 _ ρ2 σ F _ ox ρ3 w2 q3 fun z S3 H3 e3 w3 => ?_
          have o3 : Own K S3 H3 [] ((z, ox) :: (kV kk, .st dk) :: (.ref ad, o1) :: (T ++ (its ρ3 σ ++ F))) := w3.own
          obtain ⟨ad', ks', he, hA', r'⟩ := (o3.at_ (x := .ref ad) (o := o1) (by simp)).dKr w3.le hd
          cases he
          refine ⟨_, DGet.k hA', ?_⟩
          rcases r'.val kk with ⟨z1, z2⟩ | ⟨v, d2, h1, h2, h3⟩
          · rw [z2] at q
            cases q
            rw [z1]
            have w4 : Sat K pin S3 H3 ((.ref ad, o1) :: (z, od) :: T) ρ3 σ F := w3.with (by
              refine Own.sub o3 ⟨[(kV kk, .st dk)], ?_⟩
              exact (List.Perm.swap _ _ _).trans (.cons _ (.swap _ _ _)))
            exact k z S3 H3 (ex_trans e1 (ex_trans e2 e3)) (rs _ _ _ _ _ w4)
          · rw [h2] at q
            cases q
            rw [h1]
            have w4 : Sat K pin S3 H3 ((.ref ad, o1) :: (v, .st d2) :: T) ρ3 σ F := w3.with (by
              refine Own.sub (o3.push h3) ⟨[(z, ox), (kV kk, .st dk)], ?_⟩
              show ((v, OD.st d2) :: (z, ox) :: (kV kk, .st dk) :: (.ref ad, o1) :: (T ++ (its ρ3 σ ++ F))).Perm ((z, ox) :: (kV kk, .st dk) :: (.ref ad, o1) :: (v, OD.st d2) :: (T ++ (its ρ3 σ ++ F)))
              exact (List.Perm.swap _ _ _).trans (.cons _ ((List.Perm.swap _ _ _).trans (.cons _ (.swap _ _ _)))))
            exact k v S3 H3 (ex_trans e1 (ex_trans e2 e3)) (rs _ _ _ _ _ w4)
        · cases q
      · cases q
    · cases q
  · cases q
theorem se_get2 {fk fx : Fe} (hu : X.A.units + 1 < cLine) (ha : SO X pin a ta oa) (hk : SE X pin b tb fk) (hx : SE X pin c tc fx)
    (h1 : attributeBase a "get" X.env (eval a X.env) = eval a X.env := by rfl)
    (h2 : ((backTo pos (starEach [b, c] X.env)).all (fun x => !x.1) && (backToKw pos (keywordEach [] X.env)).all (fun x => x.1.isSome)
      && decide (([b, c] : List Expr).length + ([] : List Keyword).length + (if ([] : List Keyword).isEmpty then 0 else 1) < 30)) = true := by rfl)
    (h3 : (apos.endLine == pos.line) = true := by rfl) (h4 : backTo pos (starEach [b, c] X.env) = [(false, eval b X.env), (false, eval c X.env)] := by rfl) : SE X pin (.Call (.Attribute a "get" apos) [b, c] [] pos) (tDGet2 ta tb tc) (fGet2 oa fk fx) :=
  ⟨pe_dget2 hu ha.pe hk.pe hx.pe ⟨h1, h2, h3, h4⟩, re_get2 ha.rd hk.rd hx.rd⟩
/-! ### {}, {k: v} -/
def fDNew : Fe := fun ρ => some (.oK [], ρ)
theorem se_dnew : SE X pin (.Dict [] [] pos) tDNewK fDNew := ⟨pe_dnewK, by
  intro S H T ρ σ F Q od ρ' w q k
  cases q
  exact fun p hp => k _ S _ (ex_refl S) (w.with (Own.newK (ds := []) w.own trivial hp))⟩
def fD1 (fk fv : Fe) : Fe := fun ρ => match fk ρ with
  | some (.st dk, ρ1) => (match fv ρ1 with
    | some (.st dv, ρ2) => (match keyD dk with
      | some k => some (.oK [(k, .st dv)], ρ2)
      | none => none)
    | _ => none)
  | _ => none
theorem se_d1 {fk fv : Fe} (hk : SE X pin a ta fk) (hv : SE X pin b tb fv) : SE X pin (.Dict [some a] [b] pos) (tDisp [(ta, tb)]) (fD1 fk fv) := by
  refine ⟨pe_disp (pps_cons hk.pe hv.pe pps_nil) rfl rfl (by simp) (show 1 ≤ 15 by decide), ?_⟩
  intro S H T ρ σ F Q od ρ' w q k
  unfold fD1 at q
  split at q
  · rename_i dk ρ1 q1
    split at q
    · rename_i dv ρ2 q2
      split at q
      · rename_i kk hkey
        cases q
        intro p hp
        have w0 : Sat X.K pin S (upd H p (.dK [])) ((.ref p, .oK []) :: T) ρ σ F := w.with (Own.newK (ks := []) (ds := []) w.own trivial hp)
        refine hk.rd S _ _ ρ σ F _ _ ρ1 w0 q1 fun x S1 H1 e1 w1 => ?_
        have hx := keyD_rp w1.known hkey
        subst hx
        refine hv.rd S1 H1 _ ρ1 σ F _ _ ρ' w1 q2 fun y S2 H2 e2 w2 => ?_
        have w3 : Sat X.K pin S2 H2 ((.ref p, .oK []) :: T) ρ' σ F := w2.tl.tl
        have o3 : Own X.K S2 H2 [] ((.ref p, .oK []) :: (T ++ (its ρ' σ ++ F))) := w3.own
        have h0 : H2 p = some (.dK []) := by
          obtain ⟨fp, z⟩ := o3.at0
          cases z with
          | oK z1 z2 _ _ =>
            have : ∀ ks : List (Key × V), ks.map (·.1) = [] → ks = [] := fun ks h => by simpa using h
            rw [this _ z2] at z1
            exact z1
        refine ⟨h0, [(kk, y)], rfl, (show 1 ≤ 15 by decide), k _ S2 _ (ex_trans e1 e2) (w3.with ?_)⟩
        exact Own.setK (ks' := mergeK [] [(kk, y)]) (ds := [(kk, dv)]) o3 ⟨rfl, w2.known, trivial⟩
      · cases q
    · cases q
  · cases q
end
end Qy
set_option Elab.async false
set_option linter.all false
set_option maxRecDepth 100000
set_option maxHeartbeats 400000
namespace Qy
open PySem PySem.Spec PyProof.Rows L2
section
variable {X : Cx} {pin : List (Option V)} {K : PySem.W.Frag} {S S' H : Hp} {e a b c : Expr} {t ta tb tc tj : TE} {f fj : Fe} {oa ob : Fo} {pos p apos : Pos} {L T F : List It} {ρ ρ2 : Rho} {σ : L2.St}
/-! ### a list opened: its cell, its items -/
theorem Own.toCell {q : Addr} {os : List OD} (h : Own K S H [] ((.ref q, .ol os) :: L)) : ∃ vs, H q = some (.lst vs) ∧ vs.length = os.length ∧ Own K S H [] ((.ref q, .cell q (.lst vs)) :: (vs.zip os ++ L)) := by
  obtain ⟨le, fp, w, nd, sn, x⟩ := h
  cases w with
  | ol a l c tl => exact ⟨_, a, l, le, _, .cell a (c.append tl), nd, sn, x⟩
theorem Own.ofCell {q : Addr} {vs : List V} {os : List OD} (h : Own K S H [] ((.ref q, .cell q (.lst vs)) :: (vs.zip os ++ L))) (hl : vs.length = os.length) : Own K S H [] ((.ref q, .ol os) :: L) := by
  obtain ⟨le, fp, w, nd, sn, x⟩ := h
  cases w with
  | cell a tl =>
    obtain ⟨f, g, rfl, h1, h2⟩ := tl.split
    exact ⟨le, _, .ol a hl h1 h2, nd, sn, x⟩
theorem At.cell {x : V} {q : Addr} {o : HO} (h : At K S H x (.cell q o)) : x = .ref q ∧ H q = some o := by
  obtain ⟨fp, w⟩ := h
  cases w with
  | cell a _ => exact ⟨rfl, a⟩
def zRest (vs : List V) (os : List OD) (j : Nat) : List It := (vs.zip os).take j ++ (vs.zip os).drop (j + 1)
theorem zip_pick {vs : List V} {os : List OD} {j : Nat} {v : V} {o : OD} (hv : vs[j]? = some v) (ho : os[j]? = some o) : (vs.zip os).Perm ((v, o) :: zRest vs os j) := by
  have hz : (vs.zip os)[j]? = some (v, o) := by rw [List.getElem?_zip_eq_some]; exact ⟨hv, ho⟩
  obtain ⟨hj, hz'⟩ := List.getElem?_eq_some_iff.mp hz
  have e1 : vs.zip os = (vs.zip os).take j ++ (v, o) :: (vs.zip os).drop (j + 1) := by rw [← hz', List.getElem_cons_drop, List.take_append_drop]
  refine (List.Perm.of_eq e1).trans ?_
  exact List.perm_middle
theorem zip_set2 {vs : List V} {os : List OD} {j : Nat} {v : V} {o : OD} (hv : vs[j]? = some v) (hj : j < os.length) : (vs.zip (os.set j o)).Perm ((v, o) :: zRest vs os j) := by
  have h := zip_pick (os := os.set j o) (o := o) hv (List.getElem?_set_self hj)
  have e : zRest vs (os.set j o) j = zRest vs os j := by
    unfold zRest
    congr 1
    · simp only [List.zip, List.take_zipWith]
      rw [List.take_set_of_le (Nat.le_refl j)]
    · simp only [List.zip, List.drop_zipWith]
      rw [List.drop_set_of_lt (Nat.lt_succ_self j)]
  rw [e] at h
  exact h
theorem sat_open {i j : Nat} {os : List OD} {o : OD} (w : Sat K pin S H T ρ σ F) (ho : ρ[i]? = some (some (.ol os))) (hj : os[j]? = some o) : ∃ q vs v, σ[i]? = some (some (.ref q)) ∧ H q = some (.lst vs) ∧ vs.length = os.length ∧ vs[j]? = some v ∧ Sat K pin S H ((v, o) :: (.ref q, .cell q (.lst vs)) :: (zRest vs os j ++ T)) (ρ.set i none) σ F := by
  obtain ⟨q, vs0, hv, hq, hl0, w1⟩ := sat_list w ho
  obtain ⟨vs, hq', hl, o2⟩ := w1.own.toCell
  have hjl : j < vs.length := by rw [hl]; exact (List.getElem?_eq_some_iff.mp hj).1
  refine ⟨q, vs, vs[j], hv, hq', hl, List.getElem?_eq_getElem hjl, w1.with (o2.perm ?_)⟩
  refine .trans (.cons _ ((zip_pick (List.getElem?_eq_getElem hjl) hj).append_right _)) ?_
  simp only [List.cons_append, List.append_assoc]
  exact .swap _ _ _
theorem sat_shut {i j : Nat} {q : Addr} {vs : List V} {v : V} {os : List OD} {o : OD} (hv : σ[i]? = some (some (.ref q))) (hl : vs.length = os.length) (hvj : vs[j]? = some v) (w : Sat K pin S H ((v, o) :: (.ref q, .cell q (.lst vs)) :: (zRest vs os j ++ T)) ρ2 σ F) : Sat K pin S H T (ρ2.set i (some (.ol (os.set j o)))) σ F := by
  have hj : j < os.length := by rw [← hl]; exact (List.getElem?_eq_some_iff.mp hvj).1
  have w1 : Sat K pin S H ((.ref q, .ol (os.set j o)) :: T) ρ2 σ F := w.with (Own.ofCell (w.own.perm (by
    simp only [List.cons_append, List.append_assoc]
    refine .trans (.swap _ _ _) (.cons _ ?_)
    refine .trans ?_ ((zip_set2 (o := o) hvj hj).symm.append_right _)
    exact .of_eq (by simp))) (by simp [hl]))
  exact w1.back hv
/-! ### x[j].append(e) -/
def fAppAt (i : Nat) (fj f : Fe) : Fe := fun ρ => match ρ[i]? with
  | some (some (.ol os)) => (match fj (ρ.set i none) with
    | some (.st (.int k), ρ1) => (match ixN os.length k with
      | some j => (match os[j]? with
        | some (.ol us) => (match f ρ1 with
          | some (o, ρ2) => if us.length ≤ big then some (.st .non, ρ2.set i (some (.ol (os.set j (.ol (us ++ [o])))))) else none
          | none => none)
        | _ => none)
      | none => none)
    | _ => none)
  | _ => none
theorem ixN_at {α : Type} {xs : List α} {k : Int} {j : Nat} {x : α} (h : ixN xs.length k = some j) (hx : xs[j]? = some x) : atI xs k = some x := by
  unfold atI
  rw [h]
  exact hx
theorem re_appAt {i : Nat} (hj : RE K pin tj fj) (h : RE K pin t f) : RE K pin (tBM K "list" rAppend (tOp (rIx K) (tVar i) tj) (tCons t tNil)) (fAppAt i fj f) := by
  intro S H T ρ σ F Q od ρ' w e k
  unfold fAppAt at e
  split at e
  · rename_i os h0
    split at e
    · rename_i kk ρ1 q1
      split at e
      · rename_i j hix
        split at e
        · rename_i us hoj
          split at e
          · rename_i o ρ2 q2
            split at e
            · rename_i hb
              cases e
              obtain ⟨q, vs, v, hv, hq, hl, hvj, w1⟩ := sat_open w h0 hoj
              refine ⟨.ref q, hv, hj S H _ _ σ F _ _ ρ1 w1 q1 fun y S1 H1 e1 w2 => ?_⟩
              cases w2.known
              have w3 : Sat K pin S1 H1 ((v, .ol us) :: (.ref q, .cell q (.lst vs)) :: (zRest vs os j ++ T)) ρ1 σ F := w2.tl
              have hq1 : H1 q = some (.lst vs) := (Own.at_ (x := .ref q) (o := .cell q (.lst vs)) w3.own (by simp)).cell.2
              refine .inl ⟨q, vs, kk, v, rfl, rfl, SqL.of hq1, ixN_at (by rw [hl]; exact hix) hvj, ?_⟩
              obtain ⟨fp, z⟩ := (Own.at0 w3.own : At K S1 H1 v (.ol us))
              have hvr : ∃ b ws, v = .ref b ∧ H1 b = some (.lst ws) := by
                cases z with
                | ol a _ _ _ => exact ⟨_, _, rfl, a⟩
              obtain ⟨b, ws, rfl, hb1⟩ := hvr
              refine ⟨.inl ⟨rfl, ws, SqL.of hb1⟩, h S1 H1 _ ρ1 σ F _ o ρ2 w3 q2 fun y S2 H2 e2 w4 => ?_⟩
              have o5 : Own K S2 H2 [] ((y, o) :: (.ref b, .ol us) :: (.ref q, .cell q (.lst vs)) :: (zRest vs os j ++ T ++ (its ρ2 σ ++ F))) := w4.own
              obtain ⟨ws', hp', hl', o6⟩ := o5.app
              refine ⟨b, ws', y, rfl, rfl, hp', by rw [hl']; exact big_lt hb, k _ S2 _ (ex_trans e1 e2) ?_⟩
              have w6 : Sat K pin S2 (upd H2 b (.lst (ws' ++ [y]))) ((.ref b, .ol (us ++ [o])) :: (.ref q, .cell q (.lst vs)) :: (zRest vs os j ++ T)) ρ2 σ F := w4.with o6
              exact (sat_shut hv hl hvj w6).push (.non .nil)
            · cases e
          · cases e
        · cases e
      · cases e
    · cases e
  · cases e
theorem se_appAt {i : Nat} {x : Str} {j : Expr} {p2 ip : Pos} (hj : SE X pin j tj fj) (h : SE X pin e t f) (hsl : PlainIx j := by exact fun _ _ => rfl) (hN : X.N[i]? = some x := by rfl) (hv : Vis X.env.scope x := by first | exact Or.inl rfl | exact Or.inr (Or.inl rfl) | exact Or.inr (Or.inr rfl)) (hd : (x == ("__debug__" : Str)) = false := by decide) (hcd : (x == ("__classdict__" : Str)) = false := by decide)
    (hbase : attributeBase (.Subscript (.Name x p2) j ip) "append" X.env (eval (.Subscript (.Name x p2) j ip) X.env) = eval (.Subscript (.Name x p2) j ip) X.env := by rfl)
    (hfew : ((backTo pos (starEach [e] X.env)).all (fun x => !x.1) && (backToKw pos (keywordEach [] X.env)).all (fun x => x.1.isSome) && decide (([e] : List Expr).length + ([] : List Keyword).length + (if ([] : List Keyword).isEmpty then 0 else 1) < 30)) = true := by rfl)
    (hline : (apos.endLine == pos.line) = true := by rfl) (hs : starEach [e] X.env = (false, eval e X.env) :: starEach [] X.env := by rfl) : SE X pin (.Call (.Attribute (.Subscript (.Name x p2) j ip) "append" apos) [e] [] pos) (tBM X.K "list" rAppend (tOp (rIx X.K) (tVar i) tj) (tCons t tNil)) (fAppAt i fj f) :=
  ⟨pe_bm PySem.F.plainAttrs_list PySem.F.slot_list_append PySem.F.type_list_append mt_append (pe_ix ix_seq (pe_var hN hv hd hcd) hj.pe hsl) (pa_cons h.pe pa_nil hs) hbase hfew hline hs rfl, re_appAt hj.rd h.rd⟩
/-! ### what is walked, lent meanwhile -/
def RIL (K : PySem.W.Frag) (pin : List (Option V)) (wi : TI) (f : Fi) (bk : Rho → Rho → Rho) (sl : List Nat) : Prop := ∀ S H T ρ σ F R ds ρ', Sat K pin S H T ρ σ F → f ρ = some (ds, ρ') →
  (∀ J G Y Xs S' H', Ex S S' → Sat K pin S' H' (Xs ++ T) ρ' σ F → Walk J ds.length G Y → (∀ S2 H2 L, Ex S' S2 → Own K S2 H2 [] L → (∀ x ∈ Xs, x ∈ L) → G H2) →
    (∀ i d H2 x H3 S2 L, ds[i]? = some d → Ex S' S2 → Own K S2 H2 [] L → Y i H2 x H3 → ∃ S3, Ex S2 S3 ∧ Own K S3 H3 [] ((x, .st d) :: L)) →
    (∀ S2 H2 T2 ρ2, Sat K pin S2 H2 (Xs ++ T2) ρ2 σ F → Sat K pin S2 H2 T2 (bk ρ ρ2) σ F) → R J H') → wi σ H R
structure SIL (X : Cx) (pin : List (Option V)) (tg it : Expr) (wi : TI) (f : Fi) (bk : Rho → Rho → Rho) (sl : List Nat) : Prop where
  pe : PI X tg it wi
  rd : RIL X.K pin wi f bk sl
theorem ril_of {wi : TI} {fi : Fi} (h : RI K pin wi fi) : RIL K pin wi fi (fun _ ρ2 => ρ2) [] := by
  intro S H T ρ σ F R ds ρ' w e k
  refine h S H T ρ σ F R ds ρ' w e fun J G Y S' H' x w' W hG hY => ?_
  exact k J G Y [] S' H' x w' W (fun S2 H2 L e2 o2 _ => hG H2 (ex_trans e2 o2.le)) (fun i d H2 y H3 S2 L hd e2 o2 hy => hY i d H2 y H3 S2 L hd e2 o2 hy) fun _ _ _ _ w2 => w2
theorem sil_of {tg : Expr} {wi : TI} {fi : Fi} (h : SI X pin tg e wi fi) : SIL X pin tg e wi fi (fun _ ρ2 => ρ2) [] := ⟨h.pe, ril_of h.rd⟩
/-- for .. in x[j], x a list of lists that stands in a slot -/
def fItL (i : Nat) (fj : Fe) : Fi := fun ρ => match ρ[i]? with
  | some (some (.ol os)) => (match fj (ρ.set i none) with
    | some (.st (.int k), ρ1) => (match ixN os.length k with
      | some j => (match os[j]? with
        | some (.ol us) => (stAll us).map fun ds => (ds, ρ1)
        | _ => none)
      | none => none)
    | _ => none)
  | _ => none
theorem ril_at {i : Nat} (hj : RE K pin tj fj) : RIL K pin (iList K (tOp (rIx K) (tVar i) tj)) (fItL i fj) (fun ρ ρ2 => ρ2.set i (ρ[i]?.getD none)) [i] := by
  intro S H T ρ σ F R ds ρ' w e k
  unfold fItL at e
  split at e
  · rename_i os h0
    split at e
    · rename_i kk ρ1 q1
      split at e
      · rename_i j hix
        split at e
        · rename_i us hoj
          obtain ⟨ds', hst, hpe⟩ := Option.map_eq_some_iff.mp e
          cases hpe
          have hus := stAll_eq hst
          subst hus
          obtain ⟨q, vs, v, hv, hq, hl, hvj, w1⟩ := sat_open w h0 hoj
          refine ⟨.ref q, hv, hj S H _ _ σ F _ _ ρ' w1 q1 fun y S1 H1 e1 w2 => ?_⟩
          cases w2.known
          have w3 : Sat K pin S1 H1 ((v, .ol (ds.map .st)) :: (.ref q, .cell q (.lst vs)) :: (zRest vs os j ++ T)) ρ' σ F := w2.tl
          have hq1 : H1 q = some (.lst vs) := (Own.at_ (x := .ref q) (o := .cell q (.lst vs)) w3.own (by simp)).cell.2
          refine .inl ⟨q, vs, kk, v, rfl, rfl, SqL.of hq1, ixN_at (by rw [hl]; exact hix) hvj, ?_⟩
          obtain ⟨fp, z⟩ := (Own.at0 w3.own : At K S1 H1 v (.ol (ds.map .st)))
          have hvr : ∃ b, v = .ref b := by
            cases z with
            | ol a _ _ _ => exact ⟨_, rfl⟩
          obtain ⟨b, rfl⟩ := hvr
          obtain ⟨ws, hb1, hb2, o4⟩ := w3.own.toCell
          have hb3 : ws.length = ds.length := by simpa using hb2
          have rp : RpI K S1 (ws.zip ds) := by
            obtain ⟨_, fp, z, _⟩ := o4
            cases z with
            | cell a tl =>
              obtain ⟨f1, g1, _, h1, _⟩ := tl.split
              exact zip_st hb3 h1
          have w4 : Sat K pin S1 H1 (((.ref b, .cell b (.lst ws)) :: (ws.zip (ds.map .st) ++ ((.ref q, .cell q (.lst vs)) :: zRest vs os j))) ++ T) ρ' σ F := w3.with (o4.perm (.of_eq (by simp)))
          refine ⟨b, rfl, ⟨ws, SqL.of hb1⟩, k (Itl K b) _ (YAt ws) _ S1 H1 e1 w4 (hb3 ▸ walk_list (K := K)) (fun S2 H2 L e2 o2 hm => ?_) (fun i d H2 y H3 S2 L hd e2 o2 hy => ?_) fun S2 H2 T2 ρ2 w5 => ?_⟩
          · exact SqL.of (Own.at_ (x := .ref b) (o := .cell b (.lst ws)) o2 (hm _ (by simp))).cell.2
          · obtain ⟨rfl, hvv⟩ := hy
            exact ⟨S2, ex_refl S2, o2.push ((rp_at rp hvv hd).mono e2)⟩
          · have w6 : Sat K pin S2 H2 ((.ref b, .ol (ds.map .st)) :: (.ref q, .cell q (.lst vs)) :: (zRest vs os j ++ T2)) ρ2 σ F := w5.with (Own.ofCell (w5.own.perm (.of_eq (by simp))) hb2)
            have w7 := sat_shut hv hl hvj w6
            have eo : os.set j (.ol (ds.map .st)) = os := by
              obtain ⟨hjl, hje⟩ := List.getElem?_eq_some_iff.mp hoj
              rw [← hje, List.set_getElem_self]
            rw [eo] at w7
            show Sat K pin S2 H2 T2 (ρ2.set i (ρ[i]?.getD none)) σ F
            rw [h0]
            exact w7
        · cases e
      · cases e
    · cases e
  · cases e
theorem sil_at {i : Nat} {x : Str} {j tg : Expr} {p2 : Pos} (hj : SE X pin j tj fj) (hsl : PlainIx j := by exact fun _ _ => rfl) (hN : X.N[i]? = some x := by rfl) (hv : Vis X.env.scope x := by first | exact Or.inl rfl | exact Or.inr (Or.inl rfl) | exact Or.inr (Or.inr rfl)) (hd : (x == ("__debug__" : Str)) = false := by decide) (hcd : (x == ("__classdict__" : Str)) = false := by decide)
    (hK : X.K = K := by rfl) : SIL X pin tg (.Subscript (.Name x p2) j pos) (iList K (tOp (rIx K) (tVar i) tj)) (fItL i fj) (fun ρ ρ2 => ρ2.set i (ρ[i]?.getD none)) [i] := by
  subst hK
  exact ⟨pi_list (pe_ix ix_seq (pe_var hN hv hd hcd) hj.pe hsl), ril_at hj.rd⟩
end
end Qy
set_option Elab.async false
set_option linter.all false
set_option maxRecDepth 100000
set_option maxHeartbeats 400000
namespace Qy
open PySem PySem.Spec PyProof.Rows L2
section
variable {X : Cx} {pin : List (Option V)} {K : PySem.W.Frag} {S S' H : Hp} {e a b c : Expr} {t ta tb tc tj : TE} {f fj : Fe} {oa ob : Fo} {pos p apos : Pos} {L T F : List It} {ρ ρ2 : Rho} {σ : L2.St}
/-! ### {k: v for .. in ..} -/
def compD (own : List Nat) (tg : Fg) (tt : Ft) (fk fv : Fe) : List D → Rho → List (Key × D) → Option (List (Key × D) × Rho)
  | [], ρ, acc => some (acc, ρ)
  | d :: ds, ρ, acc => match tg (.st d) ρ with
    | none => none
    | some ρ1 => match tt ρ1 with
      | none => none
      | some (false, ρ2) => compD own tg tt fk fv ds (wipeR ρ2 own) acc
      | some (true, ρ2) => match fk ρ2 with
        | some (.st dk, ρ3) => (match fv ρ3 with
          | some (.st dv, ρ4) => (match keyD dk with
            | some k => if acc.length ≤ big then compD own tg tt fk fv ds (wipeR ρ4 own) (putA acc k dv) else none
            | none => none)
          | _ => none)
        | _ => none
def fDc (own : List Nat) (it : Fi) (bk : Rho → Rho → Rho) (tg : Fg) (tt : Ft) (fk fv : Fe) : Fe := fun ρ => match it ρ with
  | none => none
  | some (ds, ρ1) => match compD own tg tt fk fv ds (wipeR ρ1 own) [] with
    | none => none
    | some (acc, ρ2) => some (.oK (stD acc), bk ρ (wipeR ρ2 own))
theorem Own.putKD {q : Addr} {ds : List (Key × D)} {k : Key} {v : V} {d : D} (h : Own K S H [] ((.ref q, .oK (stD ds)) :: L)) (r : Rp K S v d) : ∃ ks, H q = some (.dK ks) ∧ ks.length = ds.length ∧ Own K S (upd H q (.dK (putK ks k v))) [] ((.ref q, .oK (stD (putA ds k d))) :: L) := by
  obtain ⟨ad, ks, he, hA, hr⟩ := h.at0.dKr h.le (show OD.rd (.oK (stD ds)) = some (.dK ds) by simp [OD.rd, stK_map])
  cases he
  exact ⟨ks, hA, hr.len, h.setK (hr.put k r)⟩
theorem re_dc {wi : TI} {fi : Fi} {bk : Rho → Rho → Rho} {g : TG} {fg : Fg} {sl sl' own : List Nat} {tt : TT} {ft : Ft} {tk tv : TE} {fk fv : Fe} (hi : RIL K pin wi fi bk sl') (hg : RG K pin sl g fg) (ht : RT K pin tt ft) (hk : RE K pin tk fk) (he : RE K pin tv fv) (hs : ∀ i ∈ sl, i ∈ own) (hp : ∀ i ∈ own, NoPin pin i) :
    RE K pin (tDc wi g tt tk tv own) (fDc own fi bk fg ft fk fv) := by
  intro S H T ρ σ F Q od ρ' w e k
  unfold fDc at e
  split at e
  · cases e
  · rename_i ds ρ1 q
    split at e
    · cases e
    · rename_i acc ρ2 q2
      cases e
      refine hi S H T ρ σ F _ ds ρ1 w q fun J G Y Xs S' H' x w' W hG hY hB D hD => ?_
      have pin0 := w'.pin
      refine ⟨fun i m H => m = ds.length - i ∧ i ≤ ds.length ∧ ∃ S2 ρ3 ac, Ex S' S2 ∧ Sat K pin S2 H ((.ref D, .oK (stD ac)) :: (Xs ++ T)) ρ3 (wipe σ own) F ∧ compD own fg ft fk fv (ds.drop i) ρ3 ac = some (acc, ρ2), ⟨ds.length, by simp, Nat.zero_le _, S', wipeR ρ1 own, [], ex_refl S', ?_, by simpa using q2⟩, ?_⟩
      · have w1 := w'.into (vs := own) hp
        exact w1.with (Own.newK (ks := []) (ds := []) w1.own trivial hD)
      · rintro i m H2 ⟨rfl, hi', S2, ρ3, ac, e2, w2, l2⟩
        have hGH : G H2 := hG S2 H2 _ e2 w2.own fun z hz => by
          simp only [List.cons_append, List.mem_cons, List.mem_append]
          exact .inr (.inl (.inl hz))
        by_cases hlt : i < ds.length
        · refine .inr ⟨W.goes i H2 hlt hGH, fun H3 => ∃ S3 ρ4 ac', Ex S' S3 ∧ Sat K pin S3 H3 ((.ref D, .oK (stD ac')) :: (Xs ++ T)) ρ4 (wipe σ own) F ∧ compD own fg ft fk fv (ds.drop (i + 1)) ρ4 ac' = some (acc, ρ2), fun H' z => ⟨ds.length - (i + 1), by omega, rfl, hlt, z⟩, fun y H3 hy' => ?_⟩
          have hy := W.yields i H2 y H3 hlt hGH hy'
          obtain ⟨d, hd⟩ : ∃ d, ds[i]? = some d := ⟨ds[i], by simp [hlt]⟩
          have hdr : ds.drop i = d :: ds.drop (i + 1) := by
            rw [List.drop_eq_getElem_cons hlt]
            congr 1
            have := List.getElem?_eq_getElem hlt
            rw [this] at hd
            exact Option.some.inj hd
          rw [hdr] at l2
          obtain ⟨S3, e3, o3⟩ := hY i d H2 y H3 S2 _ hd e2 w2.own hy
          have w3 : Sat K pin S3 H3 ((y, .st d) :: (.ref D, .oK (stD ac)) :: (Xs ++ T)) ρ3 (wipe σ own) F := w2.with o3
          unfold compD at l2
          split at l2
          · cases l2
          · rename_i ρ4 q4
            refine hg S3 H3 _ ρ3 (wipe σ own) F y (.st d) _ ρ4 w3 q4 fun S4 H4 σ4 e4 on w4 => ?_
            have hw := wipe_only on hs
            refine ⟨hw, ?_⟩
            have e04 : Ex S' S4 := ex_trans e2 (ex_trans e3 e4)
            split at l2
            · cases l2
            · rename_i ρ5 q5
              refine ht S4 H4 _ ρ4 σ4 F _ _ _ w4 q5 fun S5 H5 e5 w5 => ?_
              exact ⟨S5, wipeR ρ5 own, ac, ex_trans e04 e5, w5.outof hw hp, l2⟩
            · rename_i ρ5 q5
              refine ht S4 H4 _ ρ4 σ4 F _ _ _ w4 q5 fun S5 H5 e5 w5 => ?_
              show tk σ4 H5 _
              split at l2
              · rename_i dk ρ6 q6
                split at l2
                · rename_i dv ρ7 q7
                  split at l2
                  · rename_i kk hkey
                    split at l2
                    · rename_i hb
                      refine hk S5 H5 _ ρ5 σ4 F _ _ _ w5 q6 fun u S6 H6 e6 w6 => ?_
                      refine he S6 H6 _ ρ6 σ4 F _ _ _ w6 q7 fun v S7 H7 e7 w7 => ?_
                      have hu : u = kV kk := keyD_rp (w7.tl).known hkey
                      subst hu
                      have w8 : Sat K pin S7 H7 ((.ref D, .oK (stD ac)) :: (Xs ++ T)) ρ7 σ4 F := w7.tl.tl
                      obtain ⟨ks, h1, h2, h3⟩ := Own.putKD (k := kk) w8.own w7.known
                      refine ⟨ks, kk, rfl, h1, by rw [h2]; exact big_lt hb, S7, wipeR ρ7 own, putA ac kk dv, ex_trans e04 (ex_trans e5 (ex_trans e6 e7)), ?_, l2⟩
                      exact (w8.with h3).outof hw hp
                    · cases l2
                  · cases l2
                · cases l2
              · cases l2
        · have hie : i = ds.length := by omega
          subst hie
          rw [List.drop_length] at l2
          cases l2
          refine .inl ⟨W.stops H2 hGH, ?_⟩
          have w3 : Sat K pin S2 H2 ((.ref D, .oK (stD acc)) :: (Xs ++ T)) (wipeR ρ2 own) (wipe σ own) F := by
            have := w2.into (vs := own) hp
            have hh : wipe (wipe σ own) own = wipe σ own := wipe_only (sl := []) (Only.refl _) (fun _ z => nomatch z)
            rw [hh] at this
            exact this
          have w4 := w3.leave pin0
          have w5 : Sat K pin S2 H2 (Xs ++ ((.ref D, .oK (stD acc)) :: T)) (wipeR ρ2 own) σ F := w4.with (w4.own.perm (by
            rw [List.append_assoc]
            simp only [List.cons_append, List.append_assoc]
            exact List.perm_middle.symm))
          exact k _ S2 H2 (ex_trans x e2) (hB S2 H2 _ _ w5)
theorem se_dc {kx vx tg iter : Expr} {ifs : List Expr} {scope : Scope} {own : List (Str × Nat)} {wi : TI} {fi : Fi} {bk : Rho → Rho → Rho} {g : TG} {fg : Fg} {sl sl' : List Nat} {tt : TT} {ft : Ft} {tk tv : TE} {fk fv : Fe} (hc : X.calm = true) (hN : X.N.Nodup) (hi : SIL X pin tg iter wi fi bk sl') (ok : BlkOk X.N X.env.scope scope own)
    (hp : ∀ i ∈ own.map (·.2), NoPin pin i) (hsl : ∀ i ∈ sl, i ∈ own.map (·.2))
    (hg : ∀ (s : Shared) (H : Hp) (C : Addr) (cl : List (Str × Addr)) (fp : List Addr), SG (X.blk s H scope (compEnvC scope cl C X.env) fp) pin sl tg g fg) (ht : ∀ (s : Shared) (H : Hp) (C : Addr) (cl : List (Str × Addr)) (fp : List Addr), STL (X.blk s H scope (compEnvC scope cl C X.env) fp) pin ifs tt ft)
    (hk : ∀ (s : Shared) (H : Hp) (C : Addr) (cl : List (Str × Addr)) (fp : List Addr), SE (X.blk s H scope (compEnvC scope cl C X.env) fp) pin kx tk fk) (he : ∀ (s : Shared) (H : Hp) (C : Addr) (cl : List (Str × Addr)) (fp : List Addr), SE (X.blk s H scope (compEnvC scope cl C X.env) fp) pin vx tv fv) (hs : ∀ x, foldedSetIterable iter X.env x = pure x := by intro _; rfl) :
    SE X pin (.DictComp kx vx [⟨tg, iter, ifs, 0⟩] scope pos) (tDc wi g tt tk tv (own.map (·.2))) (fDc (own.map (·.2)) fi bk fg ft fk fv) :=
  ⟨pe_dc hc hN hi.pe ok (fun s H C cl fp => (hg s H C cl fp).pe) (fun s H C cl fp => (ht s H C cl fp).pe) (fun s H C cl fp => (hk s H C cl fp).pe) (fun s H C cl fp => (he s H C cl fp).pe) hs,
   re_dc hi.rd (hg X.s_0 X.H_0 0 [] []).rd (ht X.s_0 X.H_0 0 [] []).rd (hk X.s_0 X.H_0 0 [] []).rd (he X.s_0 X.H_0 0 [] []).rd hsl hp⟩
/-! ### a dict in a slot is changed -/
theorem sat_dict {i : Nat} {kvs : List (Key × OD)} (w : Sat K pin S H T ρ σ F) (ho : ρ[i]? = some (some (.oK kvs))) : ∃ q, σ[i]? = some (some (.ref q)) ∧ (∃ ks, H q = some (.dK ks)) ∧ Sat K pin S H ((.ref q, .oK kvs) :: T) (ρ.set i none) σ F := by
  obtain ⟨v, hv, w1⟩ := w.take ho
  have o1 : Own K S H [] ((v, .oK kvs) :: (T ++ (its (ρ.set i none) σ ++ F))) := w1.own
  obtain ⟨fp, q⟩ := o1.at0
  cases q with
  | oK a l _ _ => exact ⟨_, hv, ⟨_, a⟩, w1⟩
def rUpd : V → List V → Hp → VK → Prop := fun x vs H Q => ∃ d o ks ms, x = .ref d ∧ vs = [.ref o] ∧ d ≠ o ∧ H d = some (.dK ks) ∧ H o = some (.dK ms) ∧ ks.length + ms.length ≤ sizeLine ∧ Q .non (upd H d (.dK (mergeK ks ms)))
theorem mt_update : MtR X "dict.update" rUpd := by
  intro pins s σ H x xs v us Q I rx rxs h
  obtain ⟨d, o, ks, ms, rfl, rfl, hne, hd, ho, hz, q⟩ := h
  cases rx
  obtain ⟨u, rfl, ru⟩ := rxs.one
  cases ru
  obtain ⟨z, hd1, vs, rel, dd⟩ := dk_of I.hok hd
  obtain ⟨z2, hd2, vs2, rel2, dd2⟩ := dk_of I.hok ho
  refine call_meetsIn PySem.F.slot_dict_update dd.typeIs PySem.F.entry_dict_update (PySem.F.args_dict_update_2 _ _) (meets_dict_update (mixKind X.prog X.w) d o hne hd2) ⟨vs, vs2, dd, dd2, by rw [← rel.length, ← rel2.length]; exact hz, fun h' dd' _ hs => ?_⟩
  have he : ∃ q, h'.get? d = some q := let ⟨q, _, _, hq, _⟩ := dd'; ⟨q, hq⟩
  refine ⟨.non, _, d_write (t' := s.toks) I (by rw [hd]; exact True.intro) hs he (dk_new ?_ hd1 (rel2.merge rel) dd'), rfl, q⟩
  have := length_mergeK ms ks
  omega
def fUpdate (i : Nat) (f : Fe) : Fe := fun ρ => match ρ[i]? with
  | some (some (.oK _)) => (match f ρ with
    | some (.oK ms, ρ1) => (match ρ1[i]? with
      | some (some (.oK ks)) => (match stK ks, stK ms with
        | some ds, some md => if ds.length + md.length ≤ big then some (.st .non, ρ1.set i (some (.oK (stD (mergeA ds md))))) else none
        | _, _ => none)
      | _ => none)
    | _ => none)
  | _ => none
theorem re_update {i : Nat} (h : RE K pin t f) : RE K pin (tBM K "dict" rUpd (tVar i) (tCons t tNil)) (fUpdate i f) := by
  intro S H T ρ σ F Q od ρ' w e k
  unfold fUpdate at e
  split at e
  · rename_i os0 h0
    obtain ⟨p0, hv0, ⟨ks0, hp0⟩, _⟩ := sat_dict w h0
    split at e
    · rename_i ms ρ1 q1
      split at e
      · rename_i ks h1
        split at e
        · rename_i ds md hds hmd
          split at e
          · rename_i hb
            cases e
            refine ⟨.ref p0, hv0, .inr (.inr (.inl ⟨rfl, .inl ⟨ks0, hp0⟩⟩)), h S H T ρ σ F _ _ ρ1 w q1 fun v S1 H1 e1 w1 => ?_⟩
            obtain ⟨p, hv, _, w2⟩ := sat_dict w1 h1
            rw [hv0] at hv
            cases hv
            have o2 : Own K S1 H1 [] ((.ref p0, .oK ks) :: (v, .oK ms) :: (T ++ (its (ρ1.set i none) σ ++ F))) := w2.own
            obtain ⟨q', hq'⟩ := Own.dictK (o2.perm (.swap _ _ _))
            subst hq'
            obtain ⟨_, k1, hk1, hA1, r1⟩ := o2.at0.dKr o2.le (show OD.rd (.oK ks) = some (.dK ds) by simp [OD.rd, hds])
            cases hk1
            obtain ⟨_, k2, hk2, hA2, r2⟩ := o2.at1.dKr o2.le (show OD.rd (.oK ms) = some (.dK md) by simp [OD.rd, hmd])
            cases hk2
            have hne : p0 ≠ q' := by
              obtain ⟨_, fp, z, nd, _⟩ := o2
              cases z with
              | oK _ _ _ tl =>
                cases tl with
                | oK _ _ _ _ =>
                  rintro rfl
                  exact (List.nodup_cons.mp nd).1 (List.mem_append_right _ List.mem_cons_self)
            refine ⟨p0, q', k1, k2, rfl, rfl, hne, hA1, hA2, big_le (by rw [r1.len, r2.len]; exact hb), k _ S1 _ e1 ?_⟩
            have o3 := o2.setK (RpK.merge r2 r1)
            have w3 : Sat K pin S1 (upd H1 p0 (.dK (mergeK k1 k2))) ((.ref p0, .oK (stD (mergeA ds md))) :: T) (ρ1.set i none) σ F := w2.with ((o3.perm (.swap _ _ _)).tl)
            have w4 := w3.back hv0
            rw [List.set_set] at w4
            exact w4.push (.non .nil)
          · cases e
        · cases e
      · cases e
    · cases e
  · cases e
theorem se_update {i : Nat} {x : Str} {p2 : Pos} (h : SE X pin e t f) (hN : X.N[i]? = some x := by rfl) (hv : Vis X.env.scope x := by first | exact Or.inl rfl | exact Or.inr (Or.inl rfl) | exact Or.inr (Or.inr rfl)) (hd : (x == ("__debug__" : Str)) = false := by decide) (hcd : (x == ("__classdict__" : Str)) = false := by decide)
    (hbase : attributeBase (.Name x p2) "update" X.env (eval (.Name x p2) X.env) = eval (.Name x p2) X.env := by rfl)
    (hfew : ((backTo pos (starEach [e] X.env)).all (fun x => !x.1) && (backToKw pos (keywordEach [] X.env)).all (fun x => x.1.isSome) && decide (([e] : List Expr).length + ([] : List Keyword).length + (if ([] : List Keyword).isEmpty then 0 else 1) < 30)) = true := by rfl)
    (hline : (apos.endLine == pos.line) = true := by rfl) (hs : starEach [e] X.env = (false, eval e X.env) :: starEach [] X.env := by rfl) : SE X pin (.Call (.Attribute (.Name x p2) "update" apos) [e] [] pos) (tBM X.K "dict" rUpd (tVar i) (tCons t tNil)) (fUpdate i f) :=
  ⟨pe_bm PySem.F.plainAttrs_dict PySem.F.slot_dict_update PySem.F.type_dict_update mt_update (pe_var hN hv hd hcd) (pa_cons h.pe pa_nil hs) hbase hfew hline hs rfl, re_update h.rd⟩
/-! ### x[k] = v, x a list or a dict -/
def rSetD : TSet := fun o i v H Q => ∃ a H', o = .ref a ∧ DPut H a i v H' ∧ Q H'
theorem set_dictQ (hu : X.A.units + 1 < cLine) : PSet X rSetD := by
  intro pins s σ H o i v ov iv u Q I ro ri rv h
  obtain ⟨a, H', rfl, hp, q⟩ := h
  cases ro
  exact d_setItem hu I hp ri rv fun s' I' => ⟨H', I', q⟩
def rSetQ : TSet := fun o i v H Q => rSetL o i v H Q ∨ rSetD o i v H Q
theorem set_q (hu : X.A.units + 1 < cLine) : PSet X rSetQ := by
  intro pins s σ H o i v ov iv u Q I ro ri rv h
  rcases h with h | h
  · exact set_list pins s σ H o i v ov iv u Q I ro ri rv h
  · exact set_dictQ hu pins s σ H o i v ov iv u Q I ro ri rv h
def gSetD (i : Nat) (f : Fe) : Fg := fun o ρ => match ρ[i]? with
  | some (some (.oK _)) => (match o, f ρ with
    | .st d, some (.st dk, ρ1) => (match ρ1[i]? with
      | some (some (.oK ks)) => (match stK ks, keyD dk with
        | some ds, some k => if ds.length ≤ big then some (ρ1.set i (some (.oK (stD (putA ds k d))))) else none
        | _, _ => none)
      | _ => none)
    | _, _ => none)
  | _ => none
def gSetQ (i : Nat) (f : Fe) : Fg := fun o ρ => match gSetI i f o ρ with
  | some r => some r
  | none => gSetD i f o ρ
theorem rgt_setQ {i : Nat} (h : RE K pin t f) : RG K pin [] (L2.gSub (tVar i) t rSetQ) (gSetQ i f) := by
  intro S H T ρ σ F v o Q ρ' w e k
  unfold gSetQ at e
  split at e
  · rename_i r hr
    cases e
    unfold gSetI at hr
    split at hr
    · rename_i os0 h0
      obtain ⟨p0, vs0, hv0, hp0, _, _⟩ := sat_list w h0
      split at hr
      · rename_i kk ρ1 q1
        split at hr
        · rename_i os h1
          split at hr
          · rename_i j hj
            cases hr
            refine ⟨.ref p0, hv0, h S H _ ρ σ F _ _ ρ1 w q1 fun u S1 H1 e1 w1 => .inl ?_⟩
            cases w1.known
            obtain ⟨p, vs, hv, hp, hl, w2⟩ := sat_list w1.tl h1
            rw [hv0] at hv
            cases hv
            have hjl : j < os.length := (ixN_seq hj).2.1
            have o2 : Own K S1 H1 [] ((v, o) :: (.ref p0, .ol os) :: (T ++ (its (ρ1.set i none) σ ++ F))) := w2.own.perm (.swap _ _ _)
            obtain ⟨vs', hp', hl', o3⟩ := o2.put hjl
            rw [hp] at hp'
            cases hp'
            refine ⟨p0, vs, kk, j, rfl, rfl, hp, by rw [hl]; exact hj, k S1 _ σ e1 (Only.refl σ) ?_⟩
            have w3 : Sat K pin S1 (upd H1 p0 (.lst (vs.set j v))) ((.ref p0, .ol (os.set j o)) :: T) (ρ1.set i none) σ F := w2.with o3
            have w4 := w3.back hv0
            rw [List.set_set] at w4
            exact w4
          · cases hr
        · cases hr
      · cases hr
    · cases hr
  · rename_i hnone
    clear hnone
    unfold gSetD at e
    split at e
    · rename_i os0 h0
      obtain ⟨p0, hv0, _⟩ : ∃ p0, σ[i]? = some (some (.ref p0)) ∧ True := by
        obtain ⟨p0, hv0, _, _⟩ := sat_dict w h0
        exact ⟨p0, hv0, trivial⟩
      split at e
      · rename_i d dk ρ1 q1
        split at e
        · rename_i ks h1
          split at e
          · rename_i ds kk hds hkey
            split at e
            · rename_i hb
              cases e
              refine ⟨.ref p0, hv0, h S H _ ρ σ F _ _ ρ1 w q1 fun u S1 H1 e1 w1 => .inr ?_⟩
              have hu := keyD_rp w1.known hkey
              subst hu
              have hks := stK_eq hds
              subst hks
              obtain ⟨p, hv, _, w2⟩ := sat_dict w1.tl h1
              rw [hv0] at hv
              cases hv
              have o2 : Own K S1 H1 [] ((v, .st d) :: (.ref p0, .oK (stD ds)) :: (T ++ (its (ρ1.set i none) σ ++ F))) := w2.own.perm (.swap _ _ _)
              obtain ⟨ks, a1, a2, a3⟩ := Own.putKD (k := kk) o2.tl o2.known
              refine ⟨p0, _, rfl, DPut.k a1 (by rw [a2]; exact big_lt hb), k S1 _ σ e1 (Only.refl σ) ?_⟩
              have w3 : Sat K pin S1 (upd H1 p0 (.dK (putK ks kk v))) ((.ref p0, .oK (stD (putA ds kk d))) :: T) (ρ1.set i none) σ F := w2.with a3
              have w4 := w3.back hv0
              rw [List.set_set] at w4
              exact w4
            · cases e
          · cases e
        · cases e
      · cases e
    · cases e
theorem sg_setQ {i : Nat} {x : Str} {p2 : Pos} (hu : X.A.units + 1 < cLine) (h : SE X pin e t f) (hN : X.N[i]? = some x := by rfl) (hv : Vis X.env.scope x := by first | exact Or.inl rfl | exact Or.inr (Or.inl rfl) | exact Or.inr (Or.inr rfl)) (hd : (x == ("__debug__" : Str)) = false := by decide) (hcd : (x == ("__classdict__" : Str)) = false := by decide)
    (ha : ∀ v, assign (.Subscript (.Name x p2) e pos) X.env v = (do
      let ov ← holding [v] (eval (.Name x p2) X.env)
      let iv ← holding [v, ov] (eval e X.env)
      standAt pos
      holding [v, ov, iv] (setItem ov iv v)
      release [v, ov, iv] []) := by intro _; rfl) : SG X pin [] (.Subscript (.Name x p2) e pos) (L2.gSub (tVar i) t rSetQ) (gSetQ i f) := ⟨pg_sub (pe_var hN hv hd hcd) h.pe (set_q hu) ha, rgt_setQ h.rd⟩
end
end Qy
set_option Elab.async false
set_option linter.all false
set_option maxRecDepth 100000
set_option maxHeartbeats 400000
namespace Qy
open PySem PySem.Spec PyProof.Rows L2
/-- ints, ascending -/
def sortI (ks : List Int) : List Int := ks.mergeSort fun a b => decide (a ≤ b)
theorem sortI_eq {ys ks : List Int} (h1 : ys.Perm ks) (h2 : ys.Pairwise (· ≤ ·)) : ys = sortI ks := by
  have h3 : (sortI ks).Pairwise (· ≤ ·) := by
    have := List.pairwise_mergeSort (le := fun (a b : Int) => decide (a ≤ b)) (by intro a b c; simp; omega) (by intro a b; simp; omega) ks
    exact this.imp (by intro a b h; simpa using h)
  exact (h1.trans (List.mergeSort_perm ks _).symm).eq_of_pairwise (fun a b _ _ h h' => Int.le_antisymm h h') h2 h3
def intsK : List (Key × D) → Option (List Int)
  | [] => some []
  | (.inl i, _) :: r => (intsK r).map (i :: ·)
  | _ :: _ => none
theorem intsK_eq : ∀ {ds : List (Key × D)} {is : List Int}, intsK ds = some is → ds.map (·.1) = is.map Sum.inl
  | [], _, h => by cases h; rfl
  | (.inl i, d) :: r, is, h => by
    simp only [intsK, Option.map_eq_some_iff] at h
    obtain ⟨js, h1, rfl⟩ := h
    simp [intsK_eq h1]
  | (.inr _, _) :: _, _, h => by cases h
def gSortedD : OD → Option OD := fun a => match a.rd with
  | some (.dK ds) => (match intsK ds with
    | some is => if is.length < 64 then some (.ol ((sortI is).map fun i => .st (.int i))) else none
    | none => none)
  | _ => none
/-- pairs of a list -/
def pairsD : List D → Option (List (Key × D))
  | [] => some []
  | .tup [k, v] :: r => (match keyD k, pairsD r with
    | some k', some r' => some ((k', v) :: r')
    | _, _ => none)
  | _ :: _ => none
def gDict : OD → Option OD := fun a => match a.rd with
  | some (.lst ds) => (match pairsD ds with
    | some kvs => some (.oK (stD (mergeA [] kvs)))
    | none => none)
  | _ => none
section
variable {X : Cx} {pin : List (Option V)} {K : PySem.W.Frag} {S S' H : Hp} {e a b c : Expr} {t ta tb tc tj : TE} {f fj : Fe} {oa ob : Fo} {pos p apos : Pos} {L T F : List It} {ρ ρ2 : Rho} {σ : L2.St}
def rSortD : List V → Hp → VK → Prop := fun xs H Q => ∃ (a : Addr) (kvs : List (Key × V)) (ks : List Int), xs = [.ref a] ∧ Rd H a (.dK kvs) ∧ kvs.map (·.1) = ks.map Sum.inl ∧ ks.length < 64 ∧
    ∀ (ys : List Int) (p : Addr), ys.Perm ks → ys.Pairwise (· ≤ ·) → H p = none → Q (.ref p) (upd H p (.lst (ys.map V.int)))
theorem rpi_ints : ∀ (ys : List Int), RpI K S ((ys.map V.int).zip (ys.map D.int))
  | [] => .nil
  | i :: r => .int (rpi_ints r)
theorem rg_sortD : RG1 K (fun x H Q => rSortD [x] H Q) gSortedD := by
  intro S H L x ox oz Q w e k
  unfold gSortedD at e
  split at e
  · rename_i ds hd
    split at e
    · rename_i is his
      split at e
      · rename_i hl
        cases e
        obtain ⟨ad, ks, rfl, hA, r⟩ := w.at0.dKr w.le hd
        refine ⟨ad, ks, is, rfl, .inl hA, (rpk_iff.mp r).1.trans (intsK_eq his), hl, fun ys p h1 h2 hp => ?_⟩
        rw [sortI_eq h1 h2]
        refine k _ S _ (ex_refl S) ?_
        have := Own.newS (ds := (sortI is).map D.int) w (rpi_ints (sortI is)) (by simp) hp
        rw [List.map_map] at this
        exact this
      · cases e
    · cases e
  · cases e
def rSortAll (K : PySem.W.Frag) : List V → Hp → VK → Prop := fun xs H Q => rSorted K xs H Q ∨ rSortD xs H Q
noncomputable def gSortAll : OD → Option OD := gOr1 gSorted gSortedD
theorem cr_sortAll (hc : X.calm = true) (hu : X.A.units + 67 < cLine) : CallR X (.builtin "sorted") (rSortAll X.K) := CallR.or (cr_sortedQ hu) (call_sortedDI hc)
theorem rg_sortAll : RG1 K (fun x H Q => rSortAll K [x] H Q) gSortAll := rg_sorted.or rg_sortD
/-! ### dict(pairs) -/
def rDict (K : PySem.W.Frag) : List V → Hp → VK → Prop := fun xs H Q => ∃ (a : Addr) (ps : List Addr) (kvs : List (Key × V)), xs = [.ref a] ∧ SqL K H a (ps.map V.ref) ∧ Paired (fun p kv => SqT K H p [kV kv.1, kv.2]) ps kvs ∧
    ∀ p, H p = none → Q (.ref p) (upd H p (.dK (mergeK [] kvs)))
theorem pairs_read (le : Ex S H) : ∀ {vs : List V} {ds : List D} {kvs : List (Key × D)}, vs.length = ds.length → RpI K S (vs.zip ds) → pairsD ds = some kvs → ∃ (ps : List Addr) (ks : List (Key × V)), vs = ps.map V.ref ∧ Paired (fun p kv => SqT K H p [kV kv.1, kv.2]) ps ks ∧ RpK K S ks kvs
  | [], [], kvs, _, _, h => by cases h; exact ⟨[], [], rfl, .nil, trivial⟩
  | v :: vs, d :: ds, kvs, hl, r, h => by
    simp only [List.zip_cons_cons] at r
    unfold pairsD at h
    split at h
    · cases ‹d :: ds = []›
    · rename_i k v' r' heq
      cases heq
      split at h
      · rename_i kk rr hk hr
        cases h
        obtain ⟨ps, ks, e1, e2, e3⟩ := pairs_read le (by simpa using hl) r.tail hr
        cases r.head with
        | @tup ad us _ _ a b c _ =>
          match us, b, c with
          | [u1, u2], _, c =>
            have h1 := keyD_rp c.head hk
            have h2 := c.tail.head
            subst h1
            exact ⟨ad :: ps, (kk, u2) :: ks, by rw [e1]; rfl, .cons (SqT.of (le _ _ a)) e2, rfl, h2, e3⟩
      · cases h
    · cases h
theorem rg_dict : RG1 K (fun x H Q => rDict K [x] H Q) gDict := by
  intro S H L x ox oz Q w e k
  unfold gDict at e
  split at e
  · rename_i ds hd
    split at e
    · rename_i kvs hk
      cases e
      obtain ⟨ad, vs, rfl, hA, hl, hr⟩ := w.at0.lst w.le hd
      obtain ⟨ps, ks, rfl, e2, e3⟩ := pairs_read w.le hl hr hk
      exact ⟨ad, ps, ks, rfl, SqL.of hA, e2, fun p hp => k _ S _ (ex_refl S) (Own.newK w (RpK.merge e3 (show RpK K S [] [] from trivial)) hp)⟩
    · cases e
  · cases e
/-! ### list(range(n)) -/
def fLRg (f : Fe) : Fe := fun ρ => match f ρ with
  | some (.st (.int j), ρ1) => if 0 ≤ j ∧ j ≤ 1000000 then some (.ol ((rngD 0 j.toNat).map .st), ρ1) else none
  | _ => none
theorem se_listRg {p1 p2 : Pos} (hm : X.mg "list" = none) (hm2 : X.mg "range" = none) (hc : X.calm = true) (h : SE X pin a ta f) (hg : Gl X "list" := by rfl) (hg2 : Gl X "range" := by rfl) (na : starEach [a] X.env = (false, eval a X.env) :: starEach [] X.env := by rfl)
    (na2 : starEach [.Call (.Name "range" p1) [a] [] p2] X.env = (false, eval (.Call (.Name "range" p1) [a] [] p2) X.env) :: starEach [] X.env := by rfl) : SE X pin (.Call (.Name "list" p) [.Call (.Name "range" p1) [a] [] p2] [] pos) (tLstRg (tRg1 ta)) (fLRg f) := by
  refine ⟨pe_listRg hc hg hm (prg_1 hg2 hm2 h.pe na) na2, ?_⟩
  intro S H T ρ σ F Q od ρ' w q k
  unfold fLRg at q
  split at q
  · rename_i j ρ1 q1
    split at q
    · rename_i hb
      cases q
      refine h.rd S H T ρ σ F _ _ _ w q1 fun v S1 H1 e1 w1 => ?_
      cases w1.known
      refine ⟨j, rfl, RgOk.of_le (by omega) (by omega) (by omega) hb.1, fun q hq => k _ S1 _ e1 ?_⟩
      have er : rgV 0 j = ((List.range j.toNat).map fun (i : Nat) => (0 + (i : Int))).map V.int := by
        unfold rgV
        rw [Int.sub_zero, List.map_map]
        rfl
      have ed : rngD 0 j.toNat = ((List.range j.toNat).map fun (i : Nat) => (0 + (i : Int))).map D.int := by
        unfold rngD
        rw [List.map_map]
        rfl
      rw [er, ed]
      have w2 := w1.tl
      exact w2.with (Own.newS w2.own (rpi_ints _) (by simp) hq)
    · cases q
  · cases q
/-! ### x.pop() -/
theorem Own.pop {q : Addr} {os : List OD} {o : OD} (h : Own K S H [] ((.ref q, .ol (os ++ [o])) :: L)) : ∃ vs v, H q = some (.lst (vs ++ [v])) ∧ Own K S (upd H q (.lst vs)) [] ((v, o) :: (.ref q, .ol os) :: L) := by
  obtain ⟨vs, h1, h2, h3, h4⟩ := h.open_
  have hne : vs ≠ [] := by
    intro z
    subst z
    simp at h2
  have e : vs = vs.dropLast ++ [vs.getLast hne] := (List.dropLast_concat_getLast hne).symm
  have hl : vs.dropLast.length = os.length := by
    rw [List.length_dropLast, h2]
    simp
  refine ⟨vs.dropLast, vs.getLast hne, by rw [← e]; exact h1, ?_⟩
  rw [e, zip_app hl] at h4
  refine (Own.close (os := os) (us := vs.dropLast) (l := (vs.getLast hne, o) :: L) (h4.perm ?_) hl (by simp)).perm (.swap _ _ _)
  simp only [List.zip_cons_cons, List.zip_nil_right, List.append_assoc, List.cons_append, List.nil_append]
  exact .refl _
def fPop (i : Nat) : Fe := fun ρ => match ρ[i]? with
  | some (some (.ol os)) => (match os.getLast? with
    | some o => some (o, ρ.set i (some (.ol os.dropLast)))
    | none => none)
  | _ => none
theorem re_pop {i : Nat} : RE K pin (tBM0 K "list" rPop (tVar i)) (fPop i) := by
  intro S H T ρ σ F Q od ρ' w e k
  unfold fPop at e
  split at e
  · rename_i os h0
    split at e
    · rename_i o hlast
      cases e
      obtain ⟨q, vs0, hv, hq, hl0, w1⟩ := sat_list w h0
      have he : os = os.dropLast ++ [od] := by
        have hne : os ≠ [] := by
          intro z
          subst z
          cases hlast
        rw [List.getLast?_eq_some_getLast hne] at hlast
        cases hlast
        exact (List.dropLast_concat_getLast hne).symm
      have o1 : Own K S H [] ((.ref q, .ol (os.dropLast ++ [od])) :: (T ++ (its (ρ.set i none) σ ++ F))) := by
        rw [← he]
        exact w1.own
      obtain ⟨vs, v, hq', o2⟩ := o1.pop
      refine ⟨.ref q, hv, .inl ⟨rfl, _, SqL.of hq'⟩, q, vs ++ [v], v, rfl, rfl, hq', by simp, ?_⟩
      rw [List.dropLast_concat]
      have w2 : Sat K pin S (upd H q (.lst vs)) ((.ref q, .ol os.dropLast) :: (v, od) :: T) (ρ.set i none) σ F := w1.with (o2.perm (.swap _ _ _))
      have w3 := w2.back hv
      rw [List.set_set] at w3
      exact k v S _ (ex_refl S) w3
    · cases e
  · cases e
theorem se_pop {i : Nat} {x : Str} {p2 : Pos} (hN : X.N[i]? = some x := by rfl) (hv : Vis X.env.scope x := by first | exact Or.inl rfl | exact Or.inr (Or.inl rfl) | exact Or.inr (Or.inr rfl)) (hd : (x == ("__debug__" : Str)) = false := by decide) (hcd : (x == ("__classdict__" : Str)) = false := by decide)
    (hbase : attributeBase (.Name x p2) "pop" X.env (eval (.Name x p2) X.env) = eval (.Name x p2) X.env := by rfl) (hline : (apos.endLine == pos.line) = true := by rfl) : SE X pin (.Call (.Attribute (.Name x p2) "pop" apos) [] [] pos) (tBM0 X.K "list" rPop (tVar i)) (fPop i) :=
  ⟨pe_bm0 PySem.F.plainAttrs_list PySem.F.slot_list_pop PySem.F.type_list_pop mt_pop (pe_var hN hv hd hcd) hbase hline, re_pop⟩
/-! ### a, b, c = x, y, z of plain locals -/
def gs3 (i j l : Nat) : List OD → Rho → Option Rho
  | [o1, o2, o3], ρ => if i < ρ.length ∧ j < ρ.length ∧ l < ρ.length then some (((ρ.set i (some o1)).set j (some o2)).set l (some o3)) else none
  | _, _ => none
theorem ss_par3 {i j l : Nat} {x y z : Str} {ta : TA} {ff : Fa} {px py pz pt : Pos} {kt k2 pt2} (hc : X.calm = true) (hN : X.N.Nodup) (hp1 : NoPin pin i) (hp2 : NoPin pin j) (hp3 : NoPin pin l) (hij : i ≠ j) (hil : i ≠ l) (hjl : j ≠ l) (ha : SA X pin [a, b, c] ta ff)
    (hi : X.N[i]? = some x := by rfl) (hj : X.N[j]? = some y := by rfl) (hl : X.N[l]? = some z := by rfl)
    (hx : X.env.scope.names.lookup x = some .local := by rfl) (hy : X.env.scope.names.lookup y = some .local := by rfl) (hz : X.env.scope.names.lookup z = some .local := by rfl)
    (hw : swappedStores [.Tuple [.Name x px, .Name y py, .Name z pz] kt pt] (.Tuple [a, b, c] k2 pt2) X.env = pure (some [x, y, z]) := by rfl)
    (hs : swapsWithSole [.Tuple [.Name x px, .Name y py, .Name z pz] kt pt] (.Tuple [a, b, c] k2 pt2) pos.line X.env = pure false := by rfl) :
    SS X pin (.Assign [.Tuple [.Name x px, .Name y py, .Name z pz] kt pt] (.Tuple [a, b, c] k2 pt2) pos) (tPar3 i j l ta) (fPar ff (gs3 i j l)) := by
  refine ⟨ps_par3 hc hN hi hj hl hij hil hjl hx hy hz ha.pe hw hs, ?_⟩
  intro S H ρ σ F E o w q k
  unfold fPar at q
  split at q
  · rename_i os ρ1 q1
    split at q
    · rename_i ρ2 q2
      cases q
      refine ha.rd S H [] ρ σ F _ _ _ w q1 fun vs S' H' x hl w' => ?_
      unfold gs3 at q2
      split at q2
      · rename_i o1 o2 o3
        split at q2
        · rename_i hb
          cases q2
          match vs, hl with
          | [v1, v2, v3], _ => exact ⟨v1, v2, v3, rfl, k S' H' _ x (((w'.asg hb.1 hp1).asg (by simpa using hb.2.1) hp2).asg (by simpa using hb.2.2) hp3)⟩
        · cases q2
      · cases q2
    · cases q
  · cases q
end
end Qy
set_option Elab.async false
set_option linter.all false
set_option maxRecDepth 100000
set_option maxHeartbeats 400000
/-! Own classes: making an instance, fields, constants of the class, operators. -/
namespace Qy
open PySem PySem.Spec PyProof.Rows L2 ClX
/-- the j-th statement of a class's body -/
def clsAt (st : Stmt) (j : Nat) : Stmt := match st with
  | .ClassDef (body := b) .. => b.getD j (.Pass ⟨0, 0, 0, 0⟩)
  | _ => .Pass ⟨0, 0, 0, 0⟩
/-- a method of the class cn -/
structure CalM (P : Program) (w : World) (K : PySem.W.Frag) (mg : Str → Option Value) (base : Heap) (cn m : Str) (k : Nat) (ps : List Str) (mi : Mir) : Prop where
  ex : ∃ f fd, PySem.W.findIn K (.ref (He.ga K cn)) m = some (some (.ref f)) ∧ PySem.W.isFn K (.ref f) = true ∧ PySem.W.keepIn K (.ref f) = true ∧ Binds K fd ps [] ∧ FnG P w K mg base CX0 k f fd ps (spM K ps.length mi)
structure MkE (K : PySem.W.Frag) (mg : Str → Option Value) (cn : Str) : Prop where
  mg : mg cn = some (.ref (He.ga K cn))
  makes : PySem.W.makesIn K (He.ga K cn) = true
  kp : PySem.W.keepIn K (.ref (He.ga K cn)) = true
section
variable {X : Cx} {pin : List (Option V)} {K : PySem.W.Frag} {S S' H : Hp} {e a b c : Expr} {es : List Expr} {t ta tb tc tj : TE} {tA : TA} {fA : Fa} {f fj : Fe} {oa ob : Fo} {pos p apos : Pos} {L T F : List It} {ρ ρ2 : Rho} {σ : L2.St} {cn m : Str} {mi : Mir} {k : Nat} {ps : List Str} {bk : List (Option Nat)}
/-! ### making -/
theorem pe_makeG {C f : Addr} {fd : FuncData} {sp : Sp} (hM : PySem.W.makesIn X.K C = true) (hi : PySem.W.findIn X.K (.ref C) "__init__" = some (some (.ref f))) (hf : PySem.W.isFn X.K (.ref f) = true) (hkp : PySem.W.keepIn X.K (.ref C) = true)
    (F : FnG X.prog X.w X.K X.mg X.base CX0 k f fd ps sp) (gd : X.A.guards = some []) (hr : Room (k + 1) X.A) (hm : X.mg cn = some (.ref C)) (hb : Binds X.K fd ps []) (ha : PA X (e :: es) tA) (hg : Gl X cn) (hdb : (cn == ("__debug__" : Str)) = false)
    (he : starEach (e :: es) X.env = (false, eval e X.env) :: starEach es X.env) (hpl : (backTo pos (starEach es X.env)).any (·.1) = false) : PE X (.Call (.Name cn p) (e :: es) [] pos) (tMake C sp [] E0 tA) := by
  refine ⟨fun pins s σ H Q I h => wpAny_Call_Name_kw (ld_glob I hg hm ?_ hdb)⟩
  refine PySem.W.callWith_K (h₀ := X.base) I.ok.mod.kin hkp (thn (ha.run pos pins s σ H _ I h) fun us s1 ⟨vs, H1, I1, r, q⟩ => ⟨I1.kIn, ?_⟩) he hpl
  have n1 := I1.hok.fresh (Nat.le_refl s1.heap.objs.size)
  have n2 := I1.hok.fresh (Nat.le_succ s1.heap.objs.size)
  have q2 := q (s1.heap.objs.size + 1) s1.heap.objs.size n2 n1 (Nat.ne_of_lt (Nat.lt_succ_self _))
  rw [List.append_nil] at q2
  have J := Inv.made (C := C) I1
  have r2 : Vals (V.ref (s1.heap.objs.size + 1) :: vs) (Value.ref (s1.heap.objs.size + 1) :: us) := .cons rfl r
  have hl : (Value.ref (s1.heap.objs.size + 1) :: us).length = ps.length := by rw [← r2.length]; exact F.len _ _ _ _ q2
  have hb1 := hb _ (Value.ref (s1.heap.objs.size + 1) :: us) J.kIn (by simpa using hl)
  rw [List.append_nil] at hb1
  refine wpAny_call (make_map (f := f) I1.kIn hM hi (beq_iff_eq.mp hf) (codeAny_mono (F.run _ X.stack _ _ _ _ _ _ E0 (show (X.A.under _).guards = some [] from gd) (hr.make C us []) (J.env0.make C us []) hb1 r2 q2) fun rr z hz => ?_))
  cases rr with
  | error er => exact (show False from hz).elim
  | ok fl =>
    cases fl with
    | ret u =>
      obtain ⟨v, H', I3, rv, ev, q3⟩ := J.after hz
      subst ev
      exact ⟨rv, V.ref (s1.heap.objs.size + 1), H', I3, rfl, q3⟩
    | next => exact hz.elim
    | brk => exact hz.elim
    | cont => exact hz.elim
def fMake (cn : Str) (m : Mir) (f : Fa) (bk : List (Option Nat)) : Fe := fun ρ => match f ρ with
  | none => none
  | some (ods, ρ1) => match m (.oi cn [] :: ods) with
    | some (.st .non, some (.oi c fs) :: outs) => if outs.length = ods.length then some (.st (.ins c (valF fs)), putBack bk outs ρ1) else none
    | _ => none
theorem Own.newI {q dx : Addr} (h : Own K S H [] L) (n : H q = none) (n2 : H dx = none) (ne : dx ≠ q) : Own K S (upd (upd H dx (.own q)) q (.ins (He.ga K cn) dx [])) [] ((.ref q, .oi cn []) :: L) := by
  have h1 := h.alloc (o := .own q) n2
  have n3 : upd H dx (.own q) q = none := by rw [upd_ne (Ne.symm ne)]; exact n
  obtain ⟨le, fp, w, nd, sn, _⟩ := h1
  have sq : S q = none := ex_none le n3
  have nq : q ∉ fp := fun z => by
    obtain ⟨u, hu⟩ := w.there q z
    rw [n3] at hu; cases hu
  refine ⟨ex_upd le sq, q :: ([] ++ fp), .oi upd_same rfl .nil (w.mono (ex_refl S) fun x hx => upd_ne fun z => nq (z ▸ hx)), List.nodup_cons.mpr ⟨nq, nd⟩, ?_, fun _ z => nomatch z⟩
  intro x hx
  rcases List.mem_cons.mp hx with rfl | hx
  · exact sq
  · exact sn x hx
theorem re_make {n : Nat} (h : RB K pin tA fA bk) (hn : ∀ ρ os ρ', fA ρ = some (os, ρ') → os.length + 1 = n) : RE K pin (tMake (He.ga K cn) (spM K n mi) [] E0 tA) (fMake cn mi fA bk) := by
  intro S H T ρ σ F Q od ρ' w e k
  unfold fMake at e
  split at e
  · cases e
  · rename_i ods ρ1 q1
    split at e
    · rename_i c fs outs q2
      split at e
      · rename_i hl2
        cases e
        refine h S H T ρ σ F _ _ _ w q1 fun vs S' H' x hl hb w' => ?_
        intro q dx n1 n2 ne
        have hn' := hn _ _ _ q1
        have ow := w'.own
        rw [List.append_assoc] at ow
        refine ⟨S', T ++ (its ρ1 σ ++ F), .oi cn [] :: ods, .st .non, some (.oi c fs) :: outs, by simp; omega, by simp; omega, by simp; omega, ?_, q2, fun v S2 H2 e2 o2 => ?_⟩
        · have := ow.newI (cn := cn) n1 n2 ne
          simpa using this
        · have hv : v = .non := by cases o2.known; rfl
          refine ⟨hv, ?_⟩
          have o3 : Own K S2 H2 [] ((.ref q, .oi c fs) :: (its outs (vs.map some) ++ (T ++ (its ρ1 σ ++ F)))) := by
            have := o2.tl
            simpa [its] using this
          obtain ⟨S3, e3, o4⟩ := o3.freeze1
          have w2 : Sat K pin S3 H2 (its outs (vs.map some) ++ ((.ref q, .st (.ins c (valF fs))) :: T)) ρ1 σ F := w'.with (by
            refine o4.perm ?_
            simp only [List.append_assoc, List.cons_append, OD.val]
            exact List.perm_middle.symm)
          exact k _ S3 H2 (ex_trans x (ex_trans e2 e3)) (sat_back bk outs vs ρ1 (by omega) hb w2)
      · cases e
    · cases e
theorem se_make (M : MkE X.K X.mg cn) (c : CalM X.prog X.w X.K X.mg X.base cn "__init__" k ps mi) (gd : X.A.guards = some []) (hr : Room (k + 1) X.A) (ha : SRB X pin (e :: es) tA fA bk) (hn : ∀ ρ os ρ', fA ρ = some (os, ρ') → os.length + 1 = ps.length)
    (hg : Gl X cn := by rfl) (hdb : (cn == ("__debug__" : Str)) = false := by decide) (he : starEach (e :: es) X.env = (false, eval e X.env) :: starEach es X.env := by rfl) (hpl : (backTo pos (starEach es X.env)).any (·.1) = false := by rfl)
    (hK : X.K = K := by rfl) : SE X pin (.Call (.Name cn p) (e :: es) [] pos) (tMake (He.ga K cn) (spM K ps.length mi) [] E0 tA) (fMake cn mi fA bk) := by
  subst hK
  obtain ⟨fa, fd, h1, h2, h3, h4, h5⟩ := c.ex
  exact ⟨pe_makeG M.makes h1 h2 M.kp h5 gd hr M.mg h4 ha.pe hg hdb he hpl, re_make ha.rd hn⟩
/-! ### fields -/
def gFld (cn f : Str) : OD → Option OD
  | .st (.ins c fs) => if c = cn then (fs.lookup f).map .st else none
  | _ => none
theorem rp_lookup {f : Str} : ∀ {vs : List (Str × V)} {ds : List (Str × D)} {d : D}, vs.map (·.1) = ds.map (·.1) → RpI K S ((vs.map (·.2)).zip (ds.map (·.2))) → ds.lookup f = some d → ∃ v, vs.lookup f = some v ∧ Rp K S v d
  | [], [], _, _, _, h => by cases h
  | [], _ :: _, _, h, _, _ => by simp at h
  | _ :: _, [], _, h, _, _ => by simp at h
  | (g, v) :: vs, (g', d') :: ds, d, hm, r, h => by
    simp only [List.map_cons, List.cons.injEq] at hm
    obtain ⟨rfl, hm⟩ := hm
    simp only [List.lookup_cons] at h ⊢
    cases q : (f == g) with
    | true => rw [q] at h; cases h; exact ⟨v, rfl, r.head⟩
    | false => rw [q] at h; exact rp_lookup hm r.tail h
theorem se_fld {f : Str} (hc : Cls X.K (He.ga X.K cn)) (hn : NoAttr X.K (He.ga X.K cn) f) (ha : SO X pin a ta oa) (hb : attributeBase a f X.env (eval a X.env) = eval a X.env := by rfl) : SE X pin (.Attribute a f pos) (tFld X.K ta f) (fUn (gFld cn f) oa) := by
  refine ⟨pe_fld ha.pe hb, ?_⟩
  have hr : RG1 X.K (fun x H1 Q => ∃ a C dx fs v, x = .ref a ∧ H1 a = some (.ins C dx fs) ∧ Cls X.K C ∧ NoAttr X.K C f ∧ fs.lookup f = some v ∧ Q v H1) (gFld cn f) := by
    intro S H L x ox oz Q w e k
    unfold gFld at e
    split at e
    · rename_i c fs
      split at e
      · rename_i he
        subst he
        obtain ⟨d, hd, rfl⟩ := Option.map_eq_some_iff.mp e
        cases w.at0.st with
        | ins h1 h2 h3 _ =>
          obtain ⟨v, hv, rv⟩ := rp_lookup h2 h3 hd
          exact ⟨_, _, _, _, v, rfl, w.le _ _ h1, hc, hn, hv, k v S H (ex_refl S) (w.push rv)⟩
      · cases e
    · cases e
  exact re_un (r := fun x H1 Q => ∃ a C dx fs v, x = .ref a ∧ H1 a = some (.ins C dx fs) ∧ Cls X.K C ∧ NoAttr X.K C f ∧ fs.lookup f = some v ∧ Q v H1) ha.rd hr
/-- self.f = v: a field that was not there -/
def fSetF (i : Nat) (cn f : Str) (fv : Fe) : Fs := fun ρ => match fv ρ with
  | some (o, ρ1) => (match ρ1[i]? with
    | some (some (.oi c fs)) => if c = cn ∧ fs.length < 900 ∧ (fs.all fun p => decide (p.1 ≠ f)) = true then some (.nx (ρ1.set i (some (.oi c (fs ++ [(f, o)]))))) else none
    | _ => none)
  | none => none
theorem putF_new {f : Str} {v : V} : ∀ {vs : List (Str × V)} {fs : List (Str × OD)}, vs.map (·.1) = fs.map (·.1) → (fs.all fun p => decide (p.1 ≠ f)) = true → putF f v vs = vs ++ [(f, v)]
  | [], _, _, _ => rfl
  | _ :: _, [], h, _ => by simp at h
  | (g, x) :: vs, (g', o) :: fs, hm, ha => by
    simp only [List.map_cons, List.cons.injEq] at hm
    obtain ⟨rfl, hm⟩ := hm
    simp only [List.all_cons, Bool.and_eq_true, decide_eq_true_eq] at ha
    show (if g = f then _ else _) = _
    rw [if_neg ha.1, putF_new hm ha.2, List.cons_append]
theorem Own.setF {q : Addr} {f c : Str} {v : V} {o : OD} {fs : List (Str × OD)} (h : Own K S H [] ((v, o) :: (.ref q, .oi c fs) :: L)) (hf : (fs.all fun p => decide (p.1 ≠ f)) = true) : ∃ dx vs, H q = some (.ins (He.ga K c) dx vs) ∧ vs.length = fs.length ∧ Own K S (upd H q (.ins (He.ga K c) dx (putF f v vs))) [] ((.ref q, .oi c (fs ++ [(f, o)])) :: L) := by
  obtain ⟨le, fp, w, nd, sn, _⟩ := h.perm (.swap _ _ _)
  cases w with
  | @oi _ _ dx vs _ _ f1 f2 h1 h2 h3 h4 =>
    have hl : vs.length = fs.length := by simpa using congrArg List.length h2
    refine ⟨dx, vs, h1, hl, ?_⟩
    obtain ⟨g1, g2, rfl, h5, h6⟩ := OwI.split (a := [(v, o)]) h4
    obtain ⟨n1, n2⟩ := List.nodup_cons.mp nd
    have sq := sn q List.mem_cons_self
    rw [putF_new h2 hf]
    refine ⟨ex_upd le sq, q :: ((f1 ++ g1) ++ g2), .oi upd_same (by simp [h2]) ?_ (h6.mono (ex_refl S) fun x hx => upd_ne fun (z : x = q) => n1 (by rw [← z]; simp [hx])), ?_, ?_, fun _ z => nomatch z⟩
    · have := OwI.append h3 h5
      have e1 : ((vs ++ [(f, v)]).map (·.2)).zip ((fs ++ [(f, o)]).map (·.2)) = (vs.map (·.2)).zip (fs.map (·.2)) ++ [(v, o)] := by
        rw [List.map_append, List.map_append, zip_app (by simp [hl])]
        rfl
      rw [e1]
      exact this.mono (ex_refl S) fun x hx => upd_ne fun (z : x = q) => n1 (by
        rw [← z]
        rcases List.mem_append.mp hx with hx | hx
        · exact List.mem_append_left _ hx
        · exact List.mem_append_right _ (List.mem_append_left _ hx))
    · rw [List.append_assoc]
      exact List.nodup_cons.mpr ⟨n1, n2⟩
    · intro x hx
      rw [List.append_assoc] at hx
      exact sn x hx
theorem ss_fld {i : Nat} {x f : Str} {p1 p2 : Pos} {fv : Fe} (hc : Cls X.K (He.ga X.K cn)) (hn : NoAttr X.K (He.ga X.K cn) f) (hv : SE X pin e t fv) (hN : X.N[i]? = some x := by rfl) (hvis : Vis X.env.scope x := by first | exact Or.inl rfl | exact Or.inr (Or.inl rfl) | exact Or.inr (Or.inr rfl)) (hd : (x == ("__debug__" : Str)) = false := by decide)
    (hcd : (x == ("__classdict__" : Str)) = false := by decide) (hs : swapsWith e (some (.Attribute (.Name x p1) f p2)) pos.line X.env = pure false := by rfl) : SS X pin (.Assign [.Attribute (.Name x p1) f p2] e pos) (sFld X.K (tVar i) t f) (fSetF i cn f fv) := by
  refine ⟨ps_fld (pe_var hN hvis hd hcd) hv.pe hs, ?_⟩
  intro S H ρ σ F E o w q k
  unfold fSetF at q
  split at q
  · rename_i ov ρ1 q1
    split at q
    · rename_i c fs h0
      split at q
      · rename_i hb
        cases q
        obtain ⟨rfl, hlen, hall⟩ := hb
        refine hv.rd S H [] ρ σ F _ _ _ w q1 fun v S1 H1 e1 w1 => ?_
        obtain ⟨u, hu, w2⟩ := w1.take h0
        have o2 : Own X.K S1 H1 [] ((u, .oi c fs) :: (v, ov) :: ([] ++ (its (ρ1.set i none) σ ++ F))) := w2.own
        have hur : ∃ q, u = .ref q := by
          obtain ⟨fp, z⟩ := o2.at0
          cases z with
          | oi _ _ _ _ => exact ⟨_, rfl⟩
        obtain ⟨q, rfl⟩ := hur
        obtain ⟨dx, vs, a1, a2, a3⟩ := (o2.perm (.swap _ _ _)).setF (f := f) hall
        refine ⟨.ref q, hu, q, _, dx, vs, rfl, a1, hc, hn, by omega, ?_⟩
        have w3 : Sat X.K pin S1 (upd H1 q (.ins (He.ga X.K c) dx (putF f v vs))) [(.ref q, .oi c (fs ++ [(f, ov)]))] (ρ1.set i none) σ F := w2.with a3
        have w4 := w3.back hu
        rw [List.set_set] at w4
        exact k S1 _ σ e1 w4
      · cases q
    · cases q
  · cases q
/-! ### a constant of the class -/
theorem se_cint {f : Str} {i : Int} {mc : Value} {p1 : Pos} (hm : X.mg cn = some (.ref (He.ga X.K cn))) (hr : CRead X.K (He.ga X.K cn) mc) (hv : ∃ u, CVal X.K (He.ga X.K cn) mc f (.int i) u) (hg : Gl X cn := by rfl) (hd : (cn == ("__debug__" : Str)) = false := by decide)
    (hb : attributeBase (.Name cn p1) f X.env (eval (.Name cn p1) X.env) = eval (.Name cn p1) X.env := by rfl) : SE X pin (.Attribute (.Name cn p1) f pos) (tCVal X.K (tC (.ref (He.ga X.K cn))) f) (fC (.int i)) := by
  refine ⟨pe_cval (pe_glob hg hm rfl hd) hb, ?_⟩
  intro S H T ρ σ F Q od ρ' w e k
  cases e
  obtain ⟨u, hv⟩ := hv
  exact ⟨_, mc, _, u, rfl, hr, hv, k _ S H (ex_refl S) (w.push (.int .nil))⟩
/-! ### operators of one's own, the right side a text -/
structure OpE (K : PySem.W.Frag) (cn : Str) (op : Operator) : Prop where
  first : PySem.W.selfFirst K (He.ga K cn) = true
  noR : PySem.W.findIn K (.ref (He.ga K cn)) (PySem.dunderR op.info.2) = some none
  s1 : ∃ fo, PySem.W.findIn K (.type "str") (PySem.dunder op.info.2) = some fo
  s2 : ∃ ro, PySem.W.findIn K (.type "str") (PySem.dunderR op.info.2) = some ro
  sub : PySem.W.subIn K (.type "str") (.ref (He.ga K cn)) = some false
def rOwnS (K : PySem.W.Frag) (cn : Str) (sp : Sp) : R2 := fun x y H Q => ∃ a dx fs z, x = .ref a ∧ y = .str z ∧ H a = some (.ins (He.ga K cn) dx fs) ∧ sp [x, y] H (fun v H' => (∃ b, v = .ref b) ∧ Q v H') E0
theorem op_ownS {op : Operator} (O : OpE X.K cn op) (c : CalM X.prog X.w X.K X.mg X.base cn (PySem.dunder op.info.2) k ps mi) (gd : X.A.guards = some []) (hr : Room k X.A) : OpR X (binaryOp op) (rOwnS X.K cn (spM X.K ps.length mi)) := by
  intro pins s σ H x y v u Q I rx ry h
  obtain ⟨ad, dx, fs, z, rfl, rfl, ha, q⟩ := h
  cases rx
  obtain ⟨tk, rfl⟩ := ry
  obtain ⟨f, fd, h1, h2, h3, h4, h5⟩ := c.ex
  obtain ⟨m, hF⟩ := I.fr
  obtain ⟨mA, O1, _⟩ := ins_get I.hok ha
  obtain ⟨od, J, _⟩ := O1.look
  obtain ⟨fo, s1⟩ := O.s1
  obtain ⟨ro, s2⟩ := O.s2
  refine PySem.W.ksp_binT (T := "str") hF I.ok.mod.kin J rfl O.first h1 h2 O.noR (.inl rfl) s1 s2 O.sub ?_
  have hl : ([Value.ref ad, Value.str z tk] : List Value).length = ps.length := by
    have := h5.len _ _ _ _ q
    simpa using this
  have hb := h4 s [Value.ref ad, Value.str z tk] I.kIn (by simpa using hl)
  rw [List.append_nil] at hb
  have := wp_g (run_g (vs := [.ref ad, .str z]) h5 gd hr pass0 I hb (.cons rfl (.cons ⟨tk, rfl⟩ .nil)) q)
  refine wpAny_mono this (fun r z hz => ?_) fun _ _ y => y
  obtain ⟨v, H', I', rv, ⟨b, hv⟩, q'⟩ := hz
  subst hv
  cases rv
  exact ⟨.ref b, H', I', rfl, q'⟩
def gOwn (m : Mir) : OD → OD → Option OD
  | .st (.ins c fs), .st (.str z) => (match m [.st (.ins c fs), .st (.str z)] with
    | some (.st (.ins c' fs'), outs) => if outs.length = 2 then some (.st (.ins c' fs')) else none
    | _ => none)
  | _, _ => none
def gOwnS (cn : Str) (m : Mir) : OD → OD → Option OD := fun a b => match a with
  | .st (.ins c _) => if c = cn then gOwn m a b else none
  | _ => none
theorem rg_ownS : RG2 K (rOwnS K cn (spM K 2 mi)) (gOwnS cn mi) := by
  intro S H L x y ox oy oz Q w e k
  unfold gOwnS at e
  split at e
  · rename_i c fs
    split at e
    · rename_i hc
      subst hc
      unfold gOwn at e
      split at e
      · rename_i c' fs' z heq
        cases heq
        split at e
        · rename_i c2 fs2 outs hm
          split at e
          · rename_i hl
            cases e
            have r1 := w.at1.st
            have r2 := w.at0.st
            cases r2
            cases r1 with
            | @ins ad _ dx vs _ _ a1 a2 a3 _ =>
              refine ⟨ad, dx, vs, z, rfl, rfl, w.le _ _ a1, S, L, [.st (.ins c fs), .st (.str z)], .st (.ins c2 fs2), outs, rfl, rfl, hl, w.perm (.swap _ _ _), hm, fun v S' H' e' o' => ?_⟩
              have hv : ∃ b, v = .ref b := by
                cases o'.known
                exact ⟨_, rfl⟩
              refine ⟨hv, k v S' H' e' ?_⟩
              have o2 : Own K S' H' [] ((v, .st (.ins c2 fs2)) :: L) := Own.sub o' ⟨its outs (([.ref ad, .str z] : List V).map some), List.perm_middle.symm⟩
              have r1' : Rp K S' (.ref ad) (.ins c fs) := RpI.mono e' (.ins a1 a2 a3 .nil)
              have o3 := (o2.push r1').push (show Rp K S' (.str z) (.str z) from .str .nil)
              exact o3.perm ((List.Perm.cons _ (.swap _ _ _)).trans (.swap _ _ _))
          · cases e
        · cases e
      · cases e
    · cases e
  · cases e
end
end Qy
namespace Qy
open PySem PySem.Spec PyProof.Rows L2
theorem u1 {k : Nat} {A : Around} (hr : Room k A) : A.units + 1 < cLine := by have := hr.un; omega
theorem len_succ {f : Fa} {n : Nat} (h : ∀ ρ os ρ', f ρ = some (os, ρ') → os.length = n) : ∀ ρ os ρ', f ρ = some (os, ρ') → os.length + 1 = n + 1 := fun ρ os ρ' q => by rw [h ρ os ρ' q]
theorem se_dgetQ {X : Cx} {pin : List (Option V)} {a b : Expr} {ta tb : TE} {oa ob : Fo} {pos : Pos} (hu : X.A.units + 1 < cLine) (ha : SO X pin a ta oa) (hb : SO X pin b tb ob) (hs : NoSl b := by exact fun _ _ => rfl) : SE X pin (.Subscript a b pos) (tDGet ta tb) (fBin gDGet oa ob) := ⟨pe_dget hu ha.pe hb.pe hs, re_dget ha.rd hb.rd⟩
end Qy
set_option Elab.async false
set_option linter.all false
set_option maxRecDepth 100000
set_option maxHeartbeats 400000
/-! The law's end, for promises that ask that no repr is under way. -/
namespace Qy
open PySem PySem.Spec PyProof.Rows L2
section
variable {P : Program} {w : World} {K : PySem.W.Frag} {mg mb : Str → Option Value} {k : Nat} {fa a : Addr} {fd : FuncData} {x : Str} {sp : Sp} {s : Shared} {vs : List Value} {ns : List Int}
/-- the run from a heap H that tracks at most the script at a, known by its object -/
theorem end_from {H : Hp} {o : Obj} (hH : ∀ b, H b = none ∨ (b = a ∧ H b = some (.frz o (.lst (ns.map V.int))))) (KX : K.In s.heap) (hK : H a ≠ none → K.lookup a = none)
    (G : s.heap.Ns mainGlobals mg) (B : s.heap.Ns builtinsNs mb) (hbb : ∀ x : Str, x ≠ "__name__" → mb x = bootBuiltins x) (NL : s.heap.NoLimit) (hg : s.gens = #[])
    (ha : s.heap.get? a = some { cls := .type "list", data := .seq vs.toArray }) (hok : HOk P w H s.heap) (hr : Room k callerA)
    (F : ∀ base : Heap, K.In base → base.Ns mainGlobals mg → FnG P w K mg base CX0 k fa fd [x] sp) (hbind : ∀ (s : Shared) (u : Value), BindsTo s fd ⟨[u], []⟩ [(x, u)])
    (hsp : sp [.ref a] H (fun v _ => v = .bl true) E0) :
    codeAny (model P w) callerA (.call (.ref fa) ⟨[.ref a], []⟩) (fun r s' => r = .ok (.ret (.bool true)) ∧ OldK s.heap s'.heap ∧ s'.os = s.os ∧ AllBare s'.gens) s := by
  have only : ∀ b, H b ≠ none → b = a := fun b n => (hH b).elim (fun z => absurd z n) fun z => z.1
  have keep1 : ∀ {b : Addr} {u : Obj}, s.heap.get? b = some u → b ≠ a → (hidT s.heap H).get? b = some u := fun {b u} e n => hidT_get e ((hH b).elim id fun z => absurd z.1 n)
  have nsk : ∀ {b : Addr} {m : Str → Option Value}, s.heap.Ns b m → (hidT s.heap H).Ns b m := by
    rintro b m ⟨u, es, ep, e, d, r⟩
    refine ⟨u, es, ep, keep1 e ?_, d, r⟩
    rintro rfl
    rw [ha] at e
    injection e with e
    rw [← e] at d
    injection d
  have kk : K.In (hidT s.heap H) := fun b u e => hidT_get (KX b u e) (by
    rcases hH b with z | ⟨rfl, z⟩
    · exact z
    · have := hK (by rw [z]; simp)
      rw [this] at e
      cases e)
  have mo : Mod K mg (hidT s.heap H) := by
    obtain ⟨mc, h1, h2⟩ := NL
    exact ⟨kk, nsk G, ⟨mb, nsk B, hbb⟩, mc, nsk h1, h2⟩
  have e0 : Env0 P w K mg (hidT s.heap H) callerA [] s H := by
    refine ⟨rfl, mo, fun _ _ e => of_hidT e, ?_, trivial, fun b hb => ?_, hok, .of_eq hg⟩
    · rw [hidT_size]; exact Nat.le_refl _
    · cases (show b ∈ ([] : List Addr) from hb)
  have run := (F _ kk (nsk G)).run callerA [] s H ⟨[.ref a], []⟩ [.ref a] [.ref a] _ _ rfl hr e0 (hbind s (.ref a)) (.cons rfl .nil) hsp
  refine codeAny_mono run fun r s' q => ?_
  match r, q with
  | .ok (.ret u), ⟨v, H', q1, q2, q3, q4, q5, q6⟩ =>
    cases (show v = .bl true from q6)
    cases (show u = Value.bool true from q5)
    refine ⟨rfl, OldK.of_keep fun b u e => ?_, q1, q2⟩
    rcases hH b with z | ⟨rfl, z⟩
    · exact q3.keep b u e z (fun y => by cases (show b ∈ ([] : List Addr) from y)) (by simp)
    · obtain ⟨e1, _⟩ := hok b _ z
      obtain ⟨e2, _⟩ := q4 b _ (q3.frzs b o _ z)
      exact e2.trans (e1.symm.trans e)
/-- a law by its mirror: m answers True of every script -/
theorem walk_ofG {l : PySem.W.OpenLaw} {n k : Nat} {q : Program} {loose : List Str} {XP : (Str → Option Value) → Heap → Prop} {YP : World → Heap → Prop} {d : DefRec} {x : Str} {m : Mir}
    (hn : l.most = some n) (hn2 : n ≤ sizeLine) (hdf : d.params.defaults = []) (hr : Room k callerA)
    (F : ∀ (w : World) (mg : Str → Option Value) (fa : Addr) (h : Heap), YP w h → h.Ns mainGlobals mg → mg d.name = some (.ref fa) →
      ∃ (K : PySem.W.Frag) (fd : FuncData), K.In h ∧ (∀ (s : Shared) (u : Value), BindsTo s fd ⟨[u], []⟩ [(x, u)]) ∧ ∀ base : Heap, K.In base → base.Ns mainGlobals mg → FnG l.prog w K mg base CX0 k fa fd [x] (spM K 1 m))
    (hm : ∀ ns : List Int, ns.length ≤ n → ∃ outs, m [.st (.scr ns)] = some (.st (.bl true), outs) ∧ outs.length = 1) :
    PySem.W.WalkO q loose XP YP l.row.toRowW d [] (fun f vs => PySem.call f vs) := by
  refine Att.attach_call hn hdf fun w s₀ s₁ mg mb fa o pm cd doc a vs ns G Y ho hd hcd hmg hobj hints hlen hg => ?_
  obtain ⟨K, fd, KX, hb, hF⟩ := F w mg fa _ Y G.T.g hmg
  obtain ⟨outs, hm1, hm2⟩ := hm ns hlen
  have rv := L2.vals_ints hints
  have lenV := hints.length
  have hsz : (ns.map V.int).length ≤ sizeLine := by rw [List.length_map]; exact Nat.le_trans hlen hn2
  have spOf : ∀ H : Hp, SqL K H a (ns.map V.int) → spM K 1 m [.ref a] H (fun v _ => v = .bl true) E0 := fun H hS => by
    refine ⟨H, [], [.st (.scr ns)], .st (.bl true), outs, rfl, rfl, hm2, ⟨ex_refl H, [], .st (.scr hS .nil) .nil, .nil, (fun _ z => nomatch z), fun _ z => nomatch z⟩, hm1, fun v S' H' _ ow => ?_⟩
    cases ow.known
    rfl
  cases hk : K.lookup a with
  | some u =>
    have e := KX a u hk
    rw [hobj] at e
    cases e
    refine end_from (ns := ns) (o := { cls := .type "list", data := .seq vs.toArray }) (H := fun _ => none) (fun _ => .inl rfl) KX (fun z => absurd rfl z) G.T.g G.T.b G.T.builtins G.T.nolimit hg hobj (fun b u z => by cases z) hr hF hb (spOf _ (.inr ⟨_, vs.toArray, _, hk, rfl, rfl, rfl, ?_, by simpa using rv⟩))
    rw [List.size_toArray, lenV]
    simpa using hsz
  | none =>
    have he : ∀ b : Addr, (if b = a then some (HO.frz { cls := .type "list", data := .seq vs.toArray } (.lst (ns.map V.int))) else none) = none ∨ (b = a ∧ (if b = a then some (HO.frz { cls := .type "list", data := .seq vs.toArray } (.lst (ns.map V.int))) else none) = some (.frz { cls := .type "list", data := .seq vs.toArray } (.lst (ns.map V.int)))) := fun b => by
      by_cases z : b = a
      · exact .inr ⟨z, if_pos z⟩
      · exact .inl (if_neg z)
    refine end_from (ns := ns) (o := { cls := .type "list", data := .seq vs.toArray }) (H := fun b => if b = a then some (HO.frz { cls := .type "list", data := .seq vs.toArray } (.lst (ns.map V.int))) else none) he KX (fun _ => hk) G.T.g G.T.b G.T.builtins G.T.nolimit hg hobj (fun b u z => ?_) hr hF hb (spOf _ (.inl (.inr ⟨_, if_pos rfl⟩)))
    rcases he b with y | ⟨rfl, y⟩
    · have y' := y.symm.trans z
      cases y'
    · have y' := y.symm.trans z
      cases y'
      exact ⟨hobj, hsz, vs, _, rv, hobj⟩
end
end Qy
namespace Qy
open PySem PySem.Spec PyProof.Rows L2
/-- a class's constant, an int -/
def cvB (K : PySem.W.Frag) (C : Addr) (f : Str) (i : Int) : Bool := match PySem.W.findCls K (.ref C) (.type "type") f with
  | some (.val (.int j _)) => decide (j = i)
  | _ => false
theorem cvB_ok {K : PySem.W.Frag} {C : Addr} {f : Str} {i : Int} (h : cvB K C f i = true) : ∃ u, ClX.CVal K C (.type "type") f (.int i) u := by
  unfold cvB at h
  split at h
  · rename_i j t q
    have e : j = i := of_decide_eq_true h
    subst e
    exact ⟨_, q, t, rfl⟩
  · cases h
def opB (K : PySem.W.Frag) (cn : Str) (op : Operator) : Bool := PySem.W.selfFirst K (He.ga K cn) && (He.eqO (PySem.W.findIn K (.ref (He.ga K cn)) (PySem.dunderR op.info.2)) (some none) &&
  ((PySem.W.findIn K (.type "str") (PySem.dunder op.info.2)).isSome && ((PySem.W.findIn K (.type "str") (PySem.dunderR op.info.2)).isSome && decide (PySem.W.subIn K (.type "str") (.ref (He.ga K cn)) = some false))))
theorem opB_ok {K : PySem.W.Frag} {cn : Str} {op : Operator} (h : opB K cn op = true) : OpE K cn op := by
  obtain ⟨h1, h⟩ := He.ba h
  obtain ⟨h2, h⟩ := He.ba h
  obtain ⟨h3, h⟩ := He.ba h
  obtain ⟨h4, h5⟩ := He.ba h
  exact ⟨h1, He.eqO_ok h2, Option.isSome_iff_exists.mp h3, Option.isSome_iff_exists.mp h4, of_decide_eq_true h5⟩
/-- one def has one function object -/
theorem funD_fd {K : PySem.W.Frag} {x q : Str} {pa : Arguments} {bo : List Stmt} {sc : Scope} {dv dv' : List V} {kw kw' : List (Str × V)} {f : Addr} {fd fd' : FuncData} (h : FunD K x q pa bo sc dv kw f fd) (h' : FunD K x q pa bo sc dv' kw' f fd') : fd = fd' := by
  obtain ⟨_, _, _, _, _, _, _, _, _, _, _, l1, _⟩ := h.ex
  obtain ⟨_, _, _, _, _, _, _, _, _, _, _, l2, _⟩ := h'.ex
  rw [l1] at l2
  injection l2 with l2
  injection l2 with _ _ l2
  injection l2
end Qy
namespace Qy
open PySem PySem.Spec PyProof.Rows L2
/-! ### a Hook: facts by names, and Bools of one's own; the interpreter's statics are in -/
def frQ (g : Addr → Option Obj) (n : Nat) : PySem.W.Frag := He.frG g (He.asD g n ++ [cStatics])
abbrev AlQ : Type := He.AlD × Bool
def obsQ (n : Nat) (fa : List He.Fa) (fn : List He.DefD) (ex : PySem.W.Frag → Bool) (g : Addr → Option Obj) : AlQ := (He.obsD fa fn (frQ g n), ex (frQ g n))
def hookQ (n : Nat) (fa : List He.Fa) (fn : List He.DefD) (ex : PySem.W.Frag → Bool) : PySem.W.Hook where
  α := AlQ
  obs := fun s => obsQ n fa fn ex s.heap.get?
  val := fun _ => (He.valD fn, true)
  says := fun _ h => ∃ K : PySem.W.Frag, K.In h ∧ He.SaysD fa fn K ∧ ex K = true
  of := fun _ _ e => ⟨_, He.frG_in, congrArg (fun z : AlQ => z.1) e, congrArg (fun z : AlQ => z.2) e⟩
  keeps := fun _ _ _ ⟨K, hK, c⟩ k => ⟨K, PySem.W.Frag.In.keeps hK k, c⟩
theorem obsQ_eq {n : Nat} {fa : List He.Fa} {fn : List He.DefD} {ex : PySem.W.Frag → Bool} {g : Addr → Option Obj} {s : Shared} (h : ∀ a, g a = s.heap.get? a) : obsQ n fa fn ex g = (hookQ n fa fn ex).obs s := by
  rw [show g = s.heap.get? from funext h]
  rfl
end Qy
set_option Elab.async false
set_option linter.all false
set_option maxRecDepth 100000
set_option maxHeartbeats 400000
/-! x.pop(j), x.reverse(), x.clear(), a text again and again. -/
namespace Qy
open PySem PySem.Spec PyProof.Rows L2
section
variable {X : Cx} {pin : List (Option V)} {K : PySem.W.Frag} {S S' H : Hp} {e a b c : Expr} {t ta tb tc tj : TE} {f fj : Fe} {oa ob : Fo} {pos p apos : Pos} {L T F : List It} {ρ ρ2 : Rho} {σ : L2.St}
theorem zip_erase {α β : Type} : ∀ {vs : List α} {os : List β} {j : Nat} {v : α} {o : β}, vs.length = os.length → vs[j]? = some v → os[j]? = some o → (vs.zip os).Perm ((v, o) :: (vs.eraseIdx j).zip (os.eraseIdx j))
  | [], _, j, _, _, _, h, _ => by simp at h
  | _ :: _, [], _, _, _, h, _, _ => by simp at h
  | x :: vs, y :: os, 0, v, o, hl, h1, h2 => by
    simp at h1 h2
    subst h1 h2
    simp
  | x :: vs, y :: os, j + 1, v, o, hl, h1, h2 => by
    have ih := zip_erase (vs := vs) (os := os) (j := j) (v := v) (o := o) (by simpa using hl) (by simpa using h1) (by simpa using h2)
    simp only [List.zip_cons_cons, List.eraseIdx_cons_succ]
    exact (ih.cons _).trans (.swap _ _ _)
theorem Own.popAt {q : Addr} {os : List OD} {o : OD} {j : Nat} (h : Own K S H [] ((.ref q, .ol os) :: L)) (hj : os[j]? = some o) : ∃ vs v, H q = some (.lst vs) ∧ vs.length = os.length ∧ vs[j]? = some v ∧ Own K S (upd H q (.lst (vs.eraseIdx j))) [] ((v, o) :: (.ref q, .ol (os.eraseIdx j)) :: L) := by
  obtain ⟨vs, h1, h2, h3, h4⟩ := h.open_
  have hjl : j < vs.length := by rw [h2]; exact (List.getElem?_eq_some_iff.mp hj).1
  have hv : vs[j]? = some vs[j] := List.getElem?_eq_getElem hjl
  refine ⟨vs, vs[j], h1, h2, hv, ?_⟩
  have hl : (vs.eraseIdx j).length = (os.eraseIdx j).length := by
    rw [List.length_eraseIdx, List.length_eraseIdx, h2]
  refine (Own.close (os := os.eraseIdx j) (us := vs.eraseIdx j) (l := (vs[j], o) :: L) (h4.perm ?_) hl (by simp)).perm (.swap _ _ _)
  refine ((zip_erase h2 hv hj).append_right L).trans ?_
  rw [List.cons_append]
  exact List.perm_middle.symm
def fPopAt (i : Nat) (f : Fe) : Fe := fun ρ => match ρ[i]? with
  | some (some (.ol _)) => (match f ρ with
    | some (.st (.int k), ρ1) => (match ρ1[i]? with
      | some (some (.ol os)) => (match ixN os.length k with
        | some j => (match os[j]? with
          | some o => if os.length ≤ big then some (o, ρ1.set i (some (.ol (os.eraseIdx j)))) else none
          | none => none)
        | none => none)
      | _ => none)
    | _ => none)
  | _ => none
theorem re_popAt {i : Nat} (h : RE K pin t f) : RE K pin (tBM K "list" rPopAt (tVar i) (tCons t tNil)) (fPopAt i f) := by
  intro S H T ρ σ F Q od ρ' w e k
  unfold fPopAt at e
  split at e
  · rename_i os0 h0
    obtain ⟨p0, vs0, hv0, hp0, _, _⟩ := sat_list w h0
    split at e
    · rename_i kk ρ1 q1
      split at e
      · rename_i os h1
        split at e
        · rename_i j hj
          split at e
          · rename_i o ho
            split at e
            · rename_i hb
              cases e
              refine ⟨.ref p0, hv0, .inl ⟨rfl, vs0, SqL.of hp0⟩, h S H T ρ σ F _ _ ρ1 w q1 fun v S1 H1 e1 w1 => ?_⟩
              cases w1.known
              obtain ⟨p, vs, hv, hp, hl, w2⟩ := sat_list w1.tl h1
              rw [hv0] at hv
              cases hv
              have o2 : Own K S1 H1 [] ((.ref p0, .ol os) :: (T ++ (its (ρ1.set i none) σ ++ F))) := w2.own
              obtain ⟨vs', v', hp', hl', hvj, o3⟩ := o2.popAt ho
              rw [hp] at hp'
              cases hp'
              obtain ⟨z1, z2, z3, z4⟩ := ixN_seq hj
              have hbb : os.length ≤ 1000000 := hb
              refine ⟨p0, vs, kk, j, v', rfl, rfl, hp, by omega, by omega, by rw [hl]; exact z1, hvj, k v' S1 _ e1 ?_⟩
              have w3 : Sat K pin S1 (upd H1 p0 (.lst (vs.eraseIdx j))) ((.ref p0, .ol (os.eraseIdx j)) :: (v', od) :: T) (ρ1.set i none) σ F := w2.with (o3.perm (.swap _ _ _))
              have w4 := w3.back hv0
              rw [List.set_set] at w4
              exact w4
            · cases e
          · cases e
        · cases e
      · cases e
    · cases e
  · cases e
theorem se_popAt {i : Nat} {x : Str} {p2 : Pos} (h : SE X pin e t f) (hN : X.N[i]? = some x := by rfl) (hv : Vis X.env.scope x := by first | exact Or.inl rfl | exact Or.inr (Or.inl rfl) | exact Or.inr (Or.inr rfl)) (hd : (x == ("__debug__" : Str)) = false := by decide) (hcd : (x == ("__classdict__" : Str)) = false := by decide)
    (hbase : attributeBase (.Name x p2) "pop" X.env (eval (.Name x p2) X.env) = eval (.Name x p2) X.env := by rfl)
    (hfew : ((backTo pos (starEach [e] X.env)).all (fun x => !x.1) && (backToKw pos (keywordEach [] X.env)).all (fun x => x.1.isSome) && decide (([e] : List Expr).length + ([] : List Keyword).length + (if ([] : List Keyword).isEmpty then 0 else 1) < 30)) = true := by rfl)
    (hline : (apos.endLine == pos.line) = true := by rfl) (hs : starEach [e] X.env = (false, eval e X.env) :: starEach [] X.env := by rfl) : SE X pin (.Call (.Attribute (.Name x p2) "pop" apos) [e] [] pos) (tBM X.K "list" rPopAt (tVar i) (tCons t tNil)) (fPopAt i f) :=
  ⟨pe_bm PySem.F.plainAttrs_list PySem.F.slot_list_pop PySem.F.type_list_pop mt_popAt (pe_var hN hv hd hcd) (pa_cons h.pe pa_nil hs) hbase hfew hline hs rfl, re_popAt h.rd⟩
/-! ### a list in a slot that is turned round or emptied -/
theorem zip_rev {α β : Type} {vs : List α} {os : List β} (h : vs.length = os.length) : (vs.reverse.zip os.reverse) = (vs.zip os).reverse := by
  induction vs generalizing os with
  | nil => cases os with
    | nil => rfl
    | cons y os => cases h
  | cons x vs ih => cases os with
    | nil => cases h
    | cons y os =>
      have hl : vs.length = os.length := by simpa using h
      rw [List.reverse_cons, List.reverse_cons, zip_app (by simpa using hl), ih hl]
      simp
def fRev (i : Nat) : Fe := fun ρ => match ρ[i]? with
  | some (some (.ol os)) => some (.st .non, ρ.set i (some (.ol os.reverse)))
  | _ => none
theorem re_rev {i : Nat} : RE K pin (tBM0 K "list" rReverse (tVar i)) (fRev i) := by
  intro S H T ρ σ F Q od ρ' w e k
  unfold fRev at e
  split at e
  · rename_i os h0
    cases e
    obtain ⟨q, vs0, hv, hq, hl0, w1⟩ := sat_list w h0
    have o1 : Own K S H [] ((.ref q, .ol os) :: (T ++ (its (ρ.set i none) σ ++ F))) := w1.own
    obtain ⟨vs, h1, h2, h3, h4⟩ := o1.open_
    rw [hq] at h1
    cases h1
    refine ⟨.ref q, hv, .inl ⟨rfl, _, SqL.of hq⟩, q, vs0, rfl, rfl, hq, ?_⟩
    have o2 := Own.close (os := os.reverse) (us := vs0.reverse) (l := (T ++ (its (ρ.set i none) σ ++ F))) (h4.perm (by
      rw [zip_rev h2]
      exact (List.reverse_perm _).symm.append_right _)) (by simp [h2]) (by simp)
    have w2 : Sat K pin S (upd H q (.lst vs0.reverse)) ((.ref q, .ol os.reverse) :: T) (ρ.set i none) σ F := w1.with o2
    have w3 := w2.back hv
    rw [List.set_set] at w3
    exact k _ S _ (ex_refl S) (w3.push (.non .nil))
  · cases e
def fClr (i : Nat) : Fe := fun ρ => match ρ[i]? with
  | some (some (.ol _)) => some (.st .non, ρ.set i (some (.ol [])))
  | _ => none
theorem re_clr {i : Nat} : RE K pin (tBM0 K "list" rClear (tVar i)) (fClr i) := by
  intro S H T ρ σ F Q od ρ' w e k
  unfold fClr at e
  split at e
  · rename_i os h0
    cases e
    obtain ⟨q, vs0, hv, hq, hl0, w1⟩ := sat_list w h0
    have o1 : Own K S H [] ((.ref q, .ol os) :: (T ++ (its (ρ.set i none) σ ++ F))) := w1.own
    obtain ⟨vs, h1, h2, h3, h4⟩ := o1.open_
    refine ⟨.ref q, hv, .inl ⟨rfl, _, SqL.of hq⟩, q, vs0, rfl, rfl, hq, ?_⟩
    have o4 : Own K S H [q] (T ++ (its (ρ.set i none) σ ++ F)) := Own.drop (r := vs.zip os) h4
    have o2 := Own.close (os := []) (us := []) (l := (T ++ (its (ρ.set i none) σ ++ F))) o4 rfl (by simp)
    have w2 : Sat K pin S (upd H q (.lst [])) ((.ref q, .ol []) :: T) (ρ.set i none) σ F := w1.with o2
    have w3 := w2.back hv
    rw [List.set_set] at w3
    exact k _ S _ (ex_refl S) (w3.push (.non .nil))
  · cases e
theorem se_rev {i : Nat} {x : Str} {p2 : Pos} (hN : X.N[i]? = some x := by rfl) (hv : Vis X.env.scope x := by first | exact Or.inl rfl | exact Or.inr (Or.inl rfl) | exact Or.inr (Or.inr rfl)) (hd : (x == ("__debug__" : Str)) = false := by decide) (hcd : (x == ("__classdict__" : Str)) = false := by decide)
    (hbase : attributeBase (.Name x p2) "reverse" X.env (eval (.Name x p2) X.env) = eval (.Name x p2) X.env := by rfl) (hline : (apos.endLine == pos.line) = true := by rfl) : SE X pin (.Call (.Attribute (.Name x p2) "reverse" apos) [] [] pos) (tBM0 X.K "list" rReverse (tVar i)) (fRev i) :=
  ⟨pe_bm0 PySem.F.plainAttrs_list PySem.F.slot_list_reverse PySem.F.type_list_reverse mt_reverse (pe_var hN hv hd hcd) hbase hline, re_rev⟩
theorem se_clr {i : Nat} {x : Str} {p2 : Pos} (hN : X.N[i]? = some x := by rfl) (hv : Vis X.env.scope x := by first | exact Or.inl rfl | exact Or.inr (Or.inl rfl) | exact Or.inr (Or.inr rfl)) (hd : (x == ("__debug__" : Str)) = false := by decide) (hcd : (x == ("__classdict__" : Str)) = false := by decide)
    (hbase : attributeBase (.Name x p2) "clear" X.env (eval (.Name x p2) X.env) = eval (.Name x p2) X.env := by rfl) (hline : (apos.endLine == pos.line) = true := by rfl) : SE X pin (.Call (.Attribute (.Name x p2) "clear" apos) [] [] pos) (tBM0 X.K "list" rClear (tVar i)) (fClr i) :=
  ⟨pe_bm0 PySem.F.plainAttrs_list PySem.F.slot_list_clear PySem.F.type_list_clear mt_clear (pe_var hN hv hd hcd) hbase hline, re_clr⟩
/-! ### a text again and again -/
def gRepS : OD → OD → Option OD
  | .st (.str z), .st (.int n) => if 0 ≤ n ∧ n ≤ 1000 ∧ z.length ≤ 1000 then some (.st (.str (Txt.mul z n))) else none
  | _, _ => none
def rRepS : R2 := fun x y H Q => ∃ z n, x = .str z ∧ y = .int n ∧ 0 ≤ n ∧ n ≤ 1000 ∧ z.length ≤ 1000 ∧ Q (.str (Txt.mul z n)) H
theorem op_repS : OpR X (binaryOp .Mult) rRepS := by
  intro pins s σ H x y v u Q I rx ry h
  obtain ⟨z, n, rfl, rfl, h0, h1, h2, q⟩ := h
  obtain ⟨t, rfl⟩ := rx
  obtain ⟨t', rfl⟩ := ry
  refine SB.mul ⟨?_, fun g1 g2 => ?_, fun g1 g2 => ?_⟩ fun t2 k2 => ⟨.str (Txt.mul z n), H, I.tok _, ⟨_, rfl⟩, q⟩
  · simp; omega
  · have hz : (z.length : Int) ≤ 1000 := by omega
    have hd : (1000 : Int) ≤ (2 ^ 63 - 1) / n := by
      rw [Int.le_ediv_iff_mul_le (by omega)]
      omega
    omega
  · have hm : z.length * n.toNat ≤ 1000 * 1000 := Nat.mul_le_mul h2 (by omega)
    unfold Builtin.Str.tooLong
    have hs := sizeLine_eq
    simp
    omega
theorem rg_repS : RG2 K rRepS gRepS := by
  intro S H L x y ox oy oz Q w e k
  unfold gRepS at e
  split at e
  · rename_i z n
    split at e
    · rename_i hc
      cases e
      have r1 := w.at1.st
      have r2 := w.at0.st
      cases r1
      cases r2
      exact ⟨z, n, rfl, rfl, hc.1, hc.2.1, hc.2.2, k _ S H (ex_refl S) (w.push (.str .nil))⟩
    · cases e
  · cases e
def gMulQ := gOr2 gMulI gRepS
def rMulQ : R2 := fun x y H Q => rI CMul (fun i j => .int (i * j)) x y H Q ∨ rRepS x y H Q
theorem op_mulQ : OpR X (binaryOp .Mult) rMulQ := OpR.or op_mul op_repS
theorem rg_mulQ : RG2 K rMulQ gMulQ := rg_mul.or rg_repS
end
end Qy
set_option Elab.async false
set_option linter.all false
set_option maxRecDepth 100000
set_option maxHeartbeats 1000000
/-! enumerate(t), t a tuple. -/
namespace Qy
open PySem PySem.Spec PyProof.Rows L2
/-- enumerate of what an iterator is begun of, counted from nought -/
theorem enum_made {v : Value} {o : Obj} {G : Heap → Prop} (B : Begins v o G) :
    Meets (Builtin.«enumerate.__new__» ⟨[.type "enumerate", v], []⟩) (fun _ R z => G z.heap ∧
      R (.ok (.ret (.ref (z.heap.push o).objs.size))) { z with heap := (z.heap.push o).push { cls := .type "enumerate", data := .fields #[.none, .bool false, .ref z.heap.objs.size, rawInt 0, .none, .none] } }) :=
  .of_wp fun prog w A R z h => by
    obtain ⟨hp, gs, dr, tk, os⟩ := z; obtain ⟨g1, h⟩ := h
    have es := sub_enumerate
    have it1 : ∀ {A' : Around} {E : Value → Shared → Prop} {Q : Value → Shared → Prop}, Q (.ref hp.objs.size) ⟨hp.push o, gs, dr, tk, os⟩ → wpAny (model prog w) A' (pyIter v) Q E ⟨hp, gs, dr, tk, os⟩ :=
      fun q => B.iter prog w _ _ ⟨hp, gs, dr, tk, os⟩ _ g1 q
    wp_walk using it1
    refine wpAny_stack_any fun stk => wpAny_pure ?_
    split
    · rename_i cc _ _ _ _ _
      cases (cc == Value.type "enumerate") <;> (wp_walk using it1; exact ⟨_, rfl, h⟩)
    · wp_walk using it1; exact ⟨_, rfl, h⟩
section
variable {prog : Program} {w : World} {A : Around} {E : Value → Shared → Prop} {z : Shared}
theorem enum_call {v : Value} {o : Obj} {G : Heap → Prop} {Q : Value → Shared → Prop} (B : Begins v o G) (g1 : G z.heap)
    (k : ∀ h2, IsEnum h2 (z.heap.objs.size + 1) z.heap.objs.size 0 .none → h2.get? z.heap.objs.size = some o → (∀ b u, z.heap.get? b = some u → h2.get? b = some u) → Q (.ref (z.heap.objs.size + 1)) { z with heap := h2 }) :
    wpAny (model prog w) A (call (.type "enumerate") [v]) Q E z := by
  refine callType_new F.called_enumerate (by decide) (F.typeCall_enumerate_1 _) (F.newCall_enumerate_1 _) (fun ob => F.args_object_init_2 ob _) F.entry_enumerate_new (enum_made B) ⟨g1, ?_⟩
  have n1 : (z.heap.push o).objs.size = z.heap.objs.size + 1 := Heap.size_push ..
  show _ ∧ _
  rw [n1]
  have he : IsEnum ((z.heap.push o).push { cls := .type "enumerate", data := .fields #[.none, .bool false, .ref z.heap.objs.size, rawInt 0, .none, .none] }) (z.heap.objs.size + 1) z.heap.objs.size 0 .none := by
    have y := Heap.get?_push_size (z.heap.push o) (o := { cls := .type "enumerate", data := .fields #[.none, .bool false, .ref z.heap.objs.size, rawInt 0, .none, .none] }) rfl
    rw [n1] at y
    exact y
  exact ⟨⟨_, he, rfl⟩, k _ he (Heap.get?_push_of_some _ (Heap.get?_push_size _ B.free)) fun b u y => Heap.get?_push_of_some _ (Heap.get?_push_of_some _ y)⟩
end
/-- the items of the tuple at a, each in a new pair with its place -/
def IteT (K : PySem.W.Frag) (a : Addr) : L2.It where
  go := fun i H => ∃ (xs : List V) (x : V), SqT K H a xs ∧ xs[i]? = some x
  yld := fun i H v H' => ∃ T x, v = .ref T ∧ H T = none ∧ H' = upd H T (.tup [.int (i : Nat), x]) ∧ ∀ xs, SqT K H a xs → xs[i]? = some x
  stop := fun i H => ∃ xs : List V, SqT K H a xs ∧ xs.length ≤ i
theorem turn_enumT {P : Program} {w : World} {K : PySem.W.Frag} {elts : List Expr} {kk : Nat} {tpos : Pos} (a e it : Addr) :
    Turn P w K (.Tuple elts kk tpos) (IteT K a) [e, it] e (fun i h => (∃ old, IsEnum h e it ((i : Nat) : Int) old) ∧ h.IsTupleIter it a i ∧ e ≠ it) where
  mem := List.mem_cons_self
  obj := by
    rintro i h ⟨⟨old, he⟩, ⟨o, ho, hc, hd⟩, _⟩ b hb
    rcases List.mem_cons.mp hb with rfl | hb
    · exact ⟨_, he, fun v q => nomatch q⟩
    · rw [List.mem_singleton.mp hb]
      exact ⟨o, ho, fun v q => by rw [hd] at q; cases q⟩
  keep := by
    rintro i h h' ⟨⟨old, he⟩, hi, hne⟩ k
    exact ⟨⟨old, k e List.mem_cons_self _ he⟩, hi.at fun o q => k it (List.mem_cons_of_mem _ List.mem_cons_self) o q, hne⟩
  item := by
    intro X hP hw hK hc i pins s σ H E I hf st hg
    subst hP hw hK
    obtain ⟨⟨old, he⟩, hit, hne⟩ := st
    obtain ⟨xs, x, hq, hx⟩ := hg
    obtain ⟨its, rv, p, hz⟩ := I.tuple hq
    obtain ⟨u, hu, ru⟩ := rv.get hx
    have hel : e < s.heap.objs.size := Heap.lt_size he
    have hil : it < s.heap.objs.size := by obtain ⟨_, q, _⟩ := hit; exact Heap.lt_size q
    have hai : a ≠ it := by
      intro y
      obtain ⟨o1, g1, c1, _⟩ := p
      obtain ⟨o2, g2, c2, _⟩ := hit
      rw [y, g2] at g1
      cases g1
      rw [c2] at c1
      simp at c1
    have hae : a ≠ e := by
      intro y
      obtain ⟨o1, g1, c1, _⟩ := p
      rw [y, he] at g1
      cases g1
      simp at c1
    have hh : X.A.in1.handled = none := by simp [I.ok.hd hc]
    have hlt : i < its.toArray.size := by
      rw [List.size_toArray, ← rv.length]
      exact (List.getElem?_eq_some_iff.mp hx).1
    refine wpAny_pyNext_enum_itemD (Draws.tuple hh it a hai its.toArray) he ⟨hit, p⟩ hlt hne (by
      intro y
      rcases List.mem_cons.mp y with y | y
      · exact hne y
      · exact hae (List.mem_singleton.mp y).symm) fun y h' tk hy ho hit' hT hsz hk => ?_
    have hyu : y = u := by
      have : its[i]? = some y := by simpa using hy
      rw [hu] at this
      exact (Option.some.inj this).symm
    subst hyu
    refine ⟨_, rfl, wpAny_letOwnedTupleGo_enum (s := { s with heap := h', toks := tk + 1 }) ho fun h'' he' sb => ?_⟩
    have hT2 : h''.get? s.heap.objs.size = some { cls := .type "tuple", data := .seq #[.int i tk, y] } := (sb.2 _ (Nat.ne_of_gt hel)).trans hT
    have new : ObjOk X.prog X.w (upd H s.heap.objs.size (.tup [.int (i : Nat), x])) h'' s.heap.objs.size (.tup [.int (i : Nat), x]) :=
      ⟨by show 2 ≤ sizeLine; decide, [.int i tk, y], .cons ⟨_, rfl⟩ (.cons ru .nil), ⟨_, hT2, rfl, _, rfl⟩⟩
    have two : ∀ b : Addr, b ∉ [e, it] → b ≠ e ∧ b ≠ it := fun b hb => ⟨fun y => hb (y ▸ List.mem_cons_self), fun y => hb (y ▸ List.mem_cons_of_mem _ List.mem_cons_self)⟩
    have I1 : Inv X pins σ (upd H s.heap.objs.size (.tup [.int (i : Nat), x])) { s with heap := h'', toks := tk + 1 } :=
      I.turnedNew (ch := [e, it]) (fun b ob hb q => (sb.2 b (two b hb).1).trans (hk b ob (two b hb).1 (two b hb).2 q)) hf (Nat.le_refl _) new
    refine ⟨.ref s.heap.objs.size, _, I1, rfl, ⟨_, x, rfl, I.hok.fresh (Nat.le_refl _), rfl, fun ys hy2 => by rw [I.tuple_inj hy2 hq]; exact hx⟩, ⟨⟨y, ?_⟩, hit'.1.at fun o q => (sb.2 it (Ne.symm hne)).trans q, hne⟩, fun b hb => ?_⟩
    · rw [show ((i + 1 : Nat) : Int) = (i : Int) + 1 by omega]
      exact he'
    · have hb' : b < s.heap.objs.size := by
        rcases List.mem_cons.mp hb with y | y
        · rw [y]; exact hel
        · rw [List.mem_singleton.mp y]; exact hil
      rw [upd_ne (Nat.ne_of_lt hb')]
      exact (hf b hb).1
  done := by
    intro X hP hw hK hc i pins s σ H E I hf st hg
    subst hP hw hK
    obtain ⟨⟨old, he⟩, hit, hne⟩ := st
    obtain ⟨xs, hq, hx⟩ := hg
    obtain ⟨its, rv, p, hz⟩ := I.tuple hq
    obtain ⟨f0, f1, f2, f3, f4, f5⟩ := hf it (List.mem_cons_of_mem _ List.mem_cons_self)
    have hai : a ≠ it := by
      intro y
      obtain ⟨o1, g1, c1, _⟩ := p
      obtain ⟨o2, g2, c2, _⟩ := hit
      rw [y, g2] at g1
      cases g1
      rw [c2] at c1
      simp at c1
    have hh : X.A.in1.handled = none := by simp [I.ok.hd hc]
    have hsz : its.toArray.size ≤ i := by
      rw [List.size_toArray, ← rv.length]
      exact hx
    have D : Draws X.prog X.w X.A.in1 it [it, a] i (fun _ _ => True) (fun j h => j = i ∧ h.IsTupleIter it a i ∧ h.IsTuple a its.toArray) :=
      { live := fun _ _ st => let ⟨o, ho, _⟩ := st.2.1; ⟨o, ho⟩
        frame := fun _ _ _ st hk => ⟨st.1, st.2.1.at fun o e => hk it List.mem_cons_self o e, st.2.2.at fun o e => hk a (List.mem_cons_of_mem _ List.mem_cons_self) o e⟩
        item := fun j _ _ _ hj st _ => absurd st.1 (Nat.ne_of_lt hj)
        done := fun _ _ _ st hE => wpAny_nextOf_tuple_end hh st.2.1 st.2.2 (by simp; simpa using hsz) hE }
    exact wpAny_pyNext_enum_endD D he ⟨rfl, hit, p⟩ fun h' eb => ⟨rfl, I.turned (t' := s.toks) (fun b o hb q => eb b o hb q) f0 f1 f3 f4 f5⟩
  self := fun A i s Q E st h => let ⟨⟨_, he⟩, _⟩ := st; wpAny_pyIter_enum he h
def iEnumT (K : PySem.W.Frag) (ta : TA) : TI := fun σ H R => ta σ H fun vs H1 => ∃ a xs, vs = [.ref a] ∧ SqT K H1 a xs ∧ R (IteT K a) H1
theorem pi_enumT {X : Cx} {e : Expr} {ta : TA} {p pos tpos : Pos} {elts : List Expr} {kk : Nat} (hg : Gl X "enumerate") (hm : X.mg "enumerate" = none) (ha : PA X [e] ta) (hs : starEach [e] X.env = [(false, eval e X.env)]) :
    PI X (.Tuple elts kk tpos) (.Call (.Name "enumerate" p) [e] [] pos) (iEnumT X.K ta) := ⟨fun pins s σ H R I h => by
  refine Call_ (ld_blt I hg hm boot_enumerate (PyProof.Rows.callWith_type1 (thn (ha.run pos pins s σ H _ I h) fun us s1 ⟨vs, H1, I1, r1, q1⟩ => ?_) hs rfl))
  obtain ⟨a, xs, rfl, hq, q⟩ := q1
  obtain ⟨u, rfl, ru⟩ := r1.one
  cases ru
  obtain ⟨its, rv, p', hz⟩ := I1.tuple hq
  refine enum_call (begins_tuple a its.toArray) p' fun h2 he hit hk => wpAny_pyIter_enum he ?_
  have I2 : Inv X pins σ H1 { s1 with heap := h2 } := I1.kept (t' := s1.toks) hk
  refine ⟨s1.heap.objs.size + 1, [s1.heap.objs.size + 1, s1.heap.objs.size], _, _, H1, rfl, I2, turn_enumT a (s1.heap.objs.size + 1) s1.heap.objs.size, ⟨⟨.none, he⟩, ⟨_, hit, rfl, rfl⟩, Nat.succ_ne_self _⟩, fun b hb => ?_, q⟩
  have hle : s1.heap.objs.size ≤ b := by
    rcases List.mem_cons.mp hb with y | y
    · rw [y]; exact Nat.le_add_right _ _
    · rw [List.mem_singleton.mp y]; exact Nat.le_refl _
  exact I1.fpOk hle (I1.hok.fresh hle)⟩
theorem walk_enumT {K : PySem.W.Frag} {a : Addr} {xs : List V} : Walk (IteT K a) xs.length (fun H => SqT K H a xs) (YPair (fun i => some (.int (i : Nat))) (fun i => xs[i]?)) where
  goes := fun i _ hi q => ⟨xs, xs[i], q, by simp [hi]⟩
  stops := fun _ q => ⟨xs, q, Nat.le_refl _⟩
  yields := fun i H v H' _ q y => by
    obtain ⟨T, x, h1, h2, h3, h4⟩ := y
    exact ⟨T, .int (i : Nat), x, h1, h2, h3, rfl, h4 xs q⟩
section
variable {X : Cx} {pin : List (Option V)} {K : PySem.W.Frag} {pos : Pos}
/-- what is counted: a list or a tuple -/
def fItEQ (f : Fa) : Fi := fun ρ => match f ρ with
  | some ([.st (.lst ds)], ρ') => some (enumD ds, ρ')
  | some ([.st (.tup ds)], ρ') => some (enumD ds, ρ')
  | some ([.st (.kt ds)], ρ') => some (enumD ds, ρ')
  | _ => none
def iEnumQ (K : PySem.W.Frag) (t : TA) : TI := fun σ H R => iEnum K t σ H R ∨ iEnumT K t σ H R
theorem enum_item {K : PySem.W.Frag} {S' : Hp} {xs : List V} {ds0 : List D} (c : RpI K S' (xs.zip ds0)) {i : Nat} {d : D} {H2 : Hp} {y : V} {H3 S2 : Hp} {L : List It} (hd : (enumD ds0)[i]? = some d) (e2 : Ex S' S2) (o2 : Own K S2 H2 [] L)
    (hy : YPair (fun i => some (.int (i : Nat))) (fun i => xs[i]?) i H2 y H3) : ∃ S3, Ex S2 S3 ∧ Own K S3 H3 [] ((y, .st d) :: L) := by
  obtain ⟨T2, x1, x2, rfl, hT, rfl, h1, h2⟩ := hy
  cases h1
  have hd' : ∃ d0, ds0[i]? = some d0 ∧ d = .tup [.int (i : Nat), d0] := by
    simp only [enumD, List.getElem?_map, List.getElem?_zipIdx] at hd
    cases q0 : ds0[i]? with
    | none => rw [q0] at hd; cases hd
    | some d0 => rw [q0] at hd; exact ⟨d0, rfl, by simpa using hd.symm⟩
  obtain ⟨d0, hd0, rfl⟩ := hd'
  obtain ⟨e5, o5⟩ := Own.newT (vs := [.int (i : Nat), x2]) (ds := [.int (i : Nat), d0]) o2 (.int (RpI.cons ((rp_at c h2 hd0).mono e2) .nil)) rfl hT
  exact ⟨_, e5, o5⟩
theorem ri_enumQ {t : TA} {f : Fa} (h : RA K pin t f) : RI K pin (iEnumQ K t) (fItEQ f) := by
  intro S H T ρ σ F R ds ρ' w e k
  unfold fItEQ at e
  split at e
  · rename_i ds0 ρ1 q
    cases e
    refine .inl (h S H T ρ σ F _ _ _ w q fun vs S' H' x hl w' => ?_)
    match vs, hl with
    | [v], hl1 =>
      cases (show Rp K S' v (.lst ds0) from w'.known) with
      | lst a b c q9 =>
        rename_i ad xs
        have hn : (enumD ds0).length = xs.length := by simp [enumD, b]
        exact ⟨ad, xs, rfl, SqL.of (w'.le _ _ a), k (Ite K ad) _ _ S' H' x w'.tl (by rw [hn]; exact walk_enum) (fun H2 e2 => SqL.of (e2 _ _ a)) fun i d H2 y H3 S2 L hd e2 o2 hy => enum_item c hd e2 o2 hy⟩
  · rename_i ds0 ρ1 q
    cases e
    refine .inr (h S H T ρ σ F _ _ _ w q fun vs S' H' x hl w' => ?_)
    match vs, hl with
    | [v], hl1 =>
      cases (show Rp K S' v (.tup ds0) from w'.known) with
      | tup a b c q9 =>
        rename_i ad xs
        have hn : (enumD ds0).length = xs.length := by simp [enumD, b]
        exact ⟨ad, xs, rfl, SqT.of (w'.le _ _ a), k (IteT K ad) _ _ S' H' x w'.tl (by rw [hn]; exact walk_enumT) (fun H2 e2 => SqT.of (e2 _ _ a)) fun i d H2 y H3 S2 L hd e2 o2 hy => enum_item c hd e2 o2 hy⟩
  · rename_i ds0 ρ1 q
    cases e
    refine .inr (h S H T ρ σ F _ _ _ w q fun vs S' H' x hl w' => ?_)
    match vs, hl with
    | [v], hl1 =>
      cases (show Rp K S' v (.kt ds0) from w'.known) with
      | kt a b c q9 =>
        rename_i ad xs
        have hn : (enumD ds0).length = xs.length := by simp [enumD, b]
        exact ⟨ad, xs, rfl, ex_t w'.le a, k (IteT K ad) _ _ S' H' x w'.tl (by rw [hn]; exact walk_enumT) (fun H2 e2 => ex_t e2 a) fun i d H2 y H3 S2 L hd e2 o2 hy => enum_item c hd e2 o2 hy⟩
  · cases e
theorem si_enumQ {elts : List Expr} {kk : Nat} {tpos p : Pos} {e : Expr} {t : TA} {f : Fa} (hm : X.mg "enumerate" = none) (h : SA X pin [e] t f) (hg : Gl X "enumerate" := by rfl) (hs : starEach [e] X.env = [(false, eval e X.env)] := by rfl) (hK : X.K = K := by rfl) : SI X pin (.Tuple elts kk tpos) (.Call (.Name "enumerate" p) [e] [] pos) (iEnumQ K t) (fItEQ f) := by subst hK; exact ⟨PI.or (pi_enum hg hm h.pe hs) (pi_enumT hg hm h.pe hs), ri_enumQ h.rd⟩
end
end Qy
set_option Elab.async false
set_option linter.all false
set_option maxRecDepth 100000
set_option maxHeartbeats 400000
/-! tuple(range(n)); C() with defaults; == of one's own. -/
namespace Qy
open PySem PySem.Spec PyProof.Rows L2 ClX
section
variable {X : Cx} {pin : List (Option V)} {K : PySem.W.Frag} {S S' H : Hp} {e a b c : Expr} {es : List Expr} {t ta tb tc tj : TE} {tA : TA} {fA : Fa} {f fj : Fe} {oa ob : Fo} {pos p apos : Pos} {L T F : List It} {ρ ρ2 : Rho} {σ : L2.St} {cn m : Str} {mi : Mir} {k : Nat} {ps : List Str} {bk : List (Option Nat)}
def fTRg (f : Fe) : Fe := fun ρ => match f ρ with
  | some (.st (.int j), ρ1) => if 0 ≤ j ∧ j ≤ 1000000 then some (.st (.tup (rngD 0 j.toNat)), ρ1) else none
  | _ => none
theorem se_tupRg {p1 p2 : Pos} (hm : X.mg "tuple" = none) (hm2 : X.mg "range" = none) (hc : X.calm = true) (h : SE X pin a ta f) (hg : Gl X "tuple" := by rfl) (hg2 : Gl X "range" := by rfl) (na : starEach [a] X.env = (false, eval a X.env) :: starEach [] X.env := by rfl)
    (na2 : starEach [.Call (.Name "range" p1) [a] [] p2] X.env = (false, eval (.Call (.Name "range" p1) [a] [] p2) X.env) :: starEach [] X.env := by rfl) : SE X pin (.Call (.Name "tuple" p) [.Call (.Name "range" p1) [a] [] p2] [] pos) (tTupRg (tRg1 ta)) (fTRg f) := by
  refine ⟨pe_tupRg hc hg hm (prg_1 hg2 hm2 h.pe na) na2, ?_⟩
  intro S H T ρ σ F Q od ρ' w q k
  unfold fTRg at q
  split at q
  · rename_i j ρ1 q1
    split at q
    · rename_i hj
      cases q
      refine h.rd S H T ρ σ F _ _ _ w q1 fun v S1 H1 e1 w1 => ?_
      cases w1.known
      refine ⟨j, rfl, ⟨by omega, by omega, by omega, by omega, by omega⟩, fun q hq => ?_⟩
      have er : rgV 0 j = ((List.range j.toNat).map fun (i : Nat) => (0 + (i : Int))).map V.int := by
        unfold rgV
        rw [Int.sub_zero, List.map_map]
        rfl
      have ed : rngD 0 j.toNat = ((List.range j.toNat).map fun (i : Nat) => (0 + (i : Int))).map D.int := by
        unfold rngD
        rw [List.map_map]
        rfl
      have w2 := w1.tl
      rw [ed] at k
      rw [er]
      obtain ⟨e3, o3⟩ := Own.newT w2.own (rpi_ints ((List.range j.toNat).map fun (i : Nat) => (0 + (i : Int)))) (by simp) hq
      exact k _ _ _ (ex_trans e1 e3) (w2.with o3)
    · cases q
  · cases q
/-! ### C(), its parameters by their defaults -/
structure CalD (P : Program) (w : World) (K : PySem.W.Frag) (mg : Str → Option Value) (base : Heap) (cn m : Str) (k : Nat) (ps : List Str) (mi : Mir) (dd : List D) : Prop where
  ex : ∃ f fd ds dvs, PySem.W.findIn K (.ref (He.ga K cn)) m = some (some (.ref f)) ∧ PySem.W.isFn K (.ref f) = true ∧ Binds K fd ps ds ∧ Vals dvs ds ∧ dvs.length = dd.length ∧ (∀ S, RpI K S (dvs.zip dd)) ∧ FnG P w K mg base CX0 k f fd ps (spM K ps.length mi)
def tMk0 (K : PySem.W.Frag) (cn : Str) (n : Nat) (mi : Mir) (dd : List D) : TE := fun σ H Q => ∀ dvs : List V, dvs.length = dd.length → (∀ S, RpI K S (dvs.zip dd)) → tMake (He.ga K cn) (spM K n mi) dvs E0 tNil σ H Q
def fMk0 (cn : Str) (mi : Mir) (dd : List D) : Fe := fun ρ => match mi (.oi cn [] :: dd.map .st) with
  | some (.st .non, some (.oi c fs) :: outs) => if outs.length = dd.length then some (.st (.ins c (valF fs)), ρ) else none
  | _ => none
theorem zip_stM : ∀ (vs : List V) (ds : List D), vs.zip (ds.map OD.st) = (vs.zip ds).map fun p => (p.1, OD.st p.2)
  | [], _ => rfl
  | _ :: _, [] => rfl
  | v :: vs, d :: ds => by simp [zip_stM vs ds]
theorem Own.pushAll {l : List It} : ∀ {r : List (V × D)}, RpI K S r → Own K S H [] l → Own K S H [] (r.map (fun p => (p.1, OD.st p.2)) ++ l)
  | [], _, h => h
  | p :: r, q, h => (Own.pushAll q.tail h).push q.head
theorem re_mk0 {n : Nat} {dd : List D} (hn : dd.length + 1 = n) : RE K pin (tMk0 K cn n mi dd) (fMk0 cn mi dd) := by
  intro S H T ρ σ F Q od ρ' w q k
  unfold fMk0 at q
  split at q
  · rename_i c fs outs q2
    split at q
    · rename_i hl
      cases q
      intro dvs hd hr
      show ∀ x dx, H x = none → H dx = none → dx ≠ x → _
      intro x dx n1 n2 ne
      have o1 : Own K S H [] ((dvs.zip dd).map (fun p => (p.1, OD.st p.2)) ++ (T ++ (its ρ σ ++ F))) := Own.pushAll (hr S) w.own
      rw [← zip_stM] at o1
      refine ⟨S, T ++ (its ρ σ ++ F), .oi cn [] :: dd.map .st, .st .non, some (.oi c fs) :: outs, by simp; omega, by simp; omega, by simp; omega, ?_, q2, fun v S2 H2 e2 o2 => ?_⟩
      · have := o1.newI (cn := cn) n1 n2 ne
        simpa using this
      · have hv : v = .non := by cases o2.known; rfl
        refine ⟨hv, ?_⟩
        have o3 : Own K S2 H2 [] ((.ref x, .oi c fs) :: (its outs (dvs.map some) ++ (T ++ (its ρ σ ++ F)))) := by
          have := o2.tl
          simpa [its] using this
        obtain ⟨S3, e3, o4⟩ := o3.freeze1
        refine k _ S3 H2 (ex_trans e2 e3) (w.with (Own.sub o4 ⟨its outs (dvs.map some), ?_⟩))
        simp only [OD.val]
        exact List.perm_middle.symm
    · cases q
  · cases q
theorem se_mk0 {dd : List D} (M : MkE X.K X.mg cn) (c : CalD X.prog X.w X.K X.mg X.base cn "__init__" k ps mi dd) (gd : X.A.guards = some []) (hr : Room (k + 1) X.A) (hn : dd.length + 1 = ps.length)
    (hg : Gl X cn := by rfl) (hdb : (cn == ("__debug__" : Str)) = false := by decide) (hK : X.K = K := by rfl) : SE X pin (.Call (.Name cn p) [] [] pos) (tMk0 K cn ps.length mi dd) (fMk0 cn mi dd) := by
  subst hK
  refine ⟨⟨fun pins s σ H Q I h => wpAny_Call_Name_kw (ld_glob I hg M.mg ?_ hdb)⟩, re_mk0 hn⟩
  obtain ⟨fa, fd, ds, dvs, h1, h2, hb, hv, hl, hrp, F⟩ := c.ex
  have q := h dvs hl hrp
  refine PySem.W.callWith_K0 I.kIn M.kp ?_
  have n1 := I.hok.fresh (Nat.le_refl s.heap.objs.size)
  have n2 := I.hok.fresh (Nat.le_succ s.heap.objs.size)
  have q2 := q (s.heap.objs.size + 1) s.heap.objs.size n2 n1 (Nat.ne_of_lt (Nat.lt_succ_self _))
  rw [List.nil_append] at q2
  have J := Inv.made (C := He.ga X.K cn) I
  have r2 : Vals (V.ref (s.heap.objs.size + 1) :: dvs) (Value.ref (s.heap.objs.size + 1) :: ds) := .cons rfl hv
  have hl2 : (Value.ref (s.heap.objs.size + 1) :: ds).length = ps.length := by rw [← r2.length]; exact F.len _ _ _ _ q2
  have hb1 := hb _ [Value.ref (s.heap.objs.size + 1)] J.kIn (by simpa using hl2)
  refine wpAny_call (make_map (f := fa) I.kIn M.makes h1 (beq_iff_eq.mp h2) (codeAny_mono (F.run _ X.stack _ _ _ _ _ _ E0 (show (X.A.under _).guards = some [] from gd) (hr.make (He.ga X.K cn) [] []) (J.env0.make (He.ga X.K cn) [] []) hb1 r2 q2) fun rr z hz => ?_))
  cases rr with
  | error er => exact (show False from hz).elim
  | ok fl =>
    cases fl with
    | ret u =>
      obtain ⟨v, H', I3, rv, evv, q3⟩ := J.after hz
      subst evv
      exact ⟨rv, V.ref (s.heap.objs.size + 1), H', I3, rfl, q3⟩
    | next => exact hz.elim
    | brk => exact hz.elim
    | cont => exact hz.elim
/-! ### == of one's own -/
def rOwnEq (K : PySem.W.Frag) (cn : Str) (sp : Sp) : R2 := fun x y H Q => ∃ a dx fs b dy gs, x = .ref a ∧ y = .ref b ∧ H a = some (.ins (He.ga K cn) dx fs) ∧ H b = some (.ins (He.ga K cn) dy gs) ∧ sp [x, y] H (fun v H' => (∃ d, v = .bl d) ∧ Q v H') E0
theorem op_ownEq (c : CalM X.prog X.w X.K X.mg X.base cn "__eq__" k ps mi) (gd : X.A.guards = some []) (hr : Room k X.A) : OpR X (compareOp .Eq) (rOwnEq X.K cn (spM X.K ps.length mi)) := by
  intro pins s σ H x y v u Q I rx ry h
  obtain ⟨ad, dx, fs, bd, dy, gs, rfl, rfl, ha, hb2, q⟩ := h
  cases rx
  cases ry
  obtain ⟨f, fd, h1, h2, h3, h4, h5⟩ := c.ex
  obtain ⟨m, hF⟩ := I.fr
  obtain ⟨mA, O1, _⟩ := ins_get I.hok ha
  obtain ⟨od, J, _⟩ := O1.look
  obtain ⟨mB, O2, _⟩ := ins_get I.hok hb2
  obtain ⟨od2, J2, _⟩ := O2.look
  have hl : ([Value.ref ad, Value.ref bd] : List Value).length = ps.length := by
    have := h5.len _ _ _ _ q
    simpa using this
  have hb := h4 s [Value.ref ad, Value.ref bd] I.kIn (by simpa using hl)
  rw [List.append_nil] at hb
  have z := wp_g (run_g (vs := [.ref ad, .ref bd]) h5 gd hr pass0 I hb (.cons rfl (.cons rfl .nil)) q)
  show wpAny _ _ (richCompare .Eq _ _) _ _ _
  refine PySem.W.cmp_K (op := .Eq) (tb := .ref (He.ga X.K cn)) hr.units0 hF I.ok.mod.kin J J2.type (by simp [PySem.W.notFirst]) h1 h2 (wpAny_mono z (fun r z' hz => ?_) fun _ _ y => y)
  obtain ⟨v, H', I', rv, ⟨d, hv⟩, q'⟩ := hz
  subst hv
  cases rv
  exact ⟨.bl d, H', I', rfl, q'⟩
def gOwnEq (cn : Str) (m : Mir) : OD → OD → Option OD
  | .st (.ins c fs), .st (.ins c' gs) => if c = cn ∧ c' = cn then (match m [.st (.ins c fs), .st (.ins c' gs)] with
    | some (.st (.bl d), outs) => if outs.length = 2 then some (.st (.bl d)) else none
    | _ => none) else none
  | _, _ => none
theorem rg_ownEq : RG2 K (rOwnEq K cn (spM K 2 mi)) (gOwnEq cn mi) := by
  intro S H L x y ox oy oz Q w e k
  unfold gOwnEq at e
  split at e
  · rename_i c fs c' gs
    split at e
    · rename_i hc
      obtain ⟨rfl, rfl⟩ := hc
      split at e
      · rename_i d outs hm
        split at e
        · rename_i hl
          cases e
          have r1 := w.at1.st
          have r2 := w.at0.st
          cases r1 with
          | @ins ad _ dx vs _ _ a1 a2 a3 _ =>
            cases r2 with
            | @ins bd _ dy us _ _ b1 b2 b3 _ =>
              refine ⟨ad, dx, vs, bd, dy, us, rfl, rfl, w.le _ _ a1, w.le _ _ b1, S, L, [.st (.ins c' fs), .st (.ins c' gs)], .st (.bl d), outs, rfl, rfl, hl, w.perm (.swap _ _ _), hm, fun v S' H' e' o' => ?_⟩
              have hv : v = .bl d := by cases o'.known; rfl
              refine ⟨⟨d, hv⟩, k v S' H' e' ?_⟩
              have o2 : Own K S' H' [] ((v, .st (.bl d)) :: L) := Own.sub o' ⟨its outs (([.ref ad, .ref bd] : List V).map some), List.perm_middle.symm⟩
              have r1' : Rp K S' (.ref ad) (.ins c' fs) := RpI.mono e' (.ins a1 a2 a3 .nil)
              have r2' : Rp K S' (.ref bd) (.ins c' gs) := RpI.mono e' (.ins b1 b2 b3 .nil)
              exact ((o2.push r1').push r2').perm ((List.Perm.cons _ (.swap _ _ _)).trans (.swap _ _ _))
        · cases e
      · cases e
    · cases e
  · cases e
end
end Qy
set_option Elab.async false
set_option linter.all false
set_option maxRecDepth 100000
set_option maxHeartbeats 400000
/-! isinstance(x, C) of a class of one's own. -/
namespace Qy
open PySem PySem.Spec PyProof.Rows L2 ClX C8
def insB (K : PySem.W.Frag) (cn : Str) : Bool := He.eqO (PySem.W.findIn K (.ref (He.ga K cn)) "__class__") (some (some (.builtin "object.__class__"))) && (He.eqO (PySem.W.specialIn K (.builtin "object.__class__") "__get__") (some (some (.builtin "getset_descriptor.__get__"))) &&
  (decide (PySem.W.takesIn K (.builtin "object.__class__") = some true) && decide (PySem.W.mroIn K (He.ga K cn) (.type "object") = some true)))
theorem insB_ok {K : PySem.W.Frag} {cn : Str} (c : Cls K (He.ga K cn)) (h : insB K cn = true) : InsC K (He.ga K cn) := by
  unfold insB at h
  simp only [Bool.and_eq_true, decide_eq_true_eq] at h
  obtain ⟨h1, h2, h3, h4⟩ := h
  exact ⟨c, He.eqO_ok h1, He.eqO_ok h2, h3, h4, by simp [PySem.W.kitOne]⟩
section
variable {X : Cx} {pin : List (Option V)} {K : PySem.W.Frag} {a : Expr} {ta : TE} {oa : Fo} {pos p p1 : Pos} {cn : Str}
def gIsiC (cn : Str) : OD → Option OD
  | .st (.ins c _) => if c = cn then some (.st (.bl true)) else none
  | _ => none
def rIsiC (C : Addr) : List V → Hp → VK → Prop := fun xs H Q => ∃ a dx fs, xs = [.ref a, .ref C] ∧ H a = some (.ins C dx fs) ∧ Q (.bl true) H
theorem rg_isiC : RG1 K (fun x H Q => rIsiC (He.ga K cn) [x, .ref (He.ga K cn)] H Q) (gIsiC cn) := by
  intro S H L x ox oz Q w e k
  unfold gIsiC at e
  split at e
  · rename_i c fs
    split at e
    · rename_i hc
      subst hc
      cases e
      cases w.at0.st with
      | ins h1 h2 h3 _ => exact ⟨_, _, _, rfl, w.le _ _ h1, k _ S H (ex_refl S) (w.push (.bl .nil))⟩
    · cases e
  · cases e
theorem se_isiC (I : InsC X.K (He.ga X.K cn)) (hm : X.mg "isinstance" = none) (hv : bootBuiltins "isinstance" = some (.builtin "isinstance")) (hc : X.mg cn = some (.ref (He.ga X.K cn))) (ha : SO X pin a ta oa) (hg : Gl X "isinstance" := by rfl) (hg2 : Gl X cn := by rfl) (hdb : (cn == ("__debug__" : Str)) = false := by decide)
    (hs : starEach [a, .Name cn p1] X.env = (false, eval a X.env) :: starEach [.Name cn p1] X.env := by rfl) (hs2 : starEach [.Name cn p1] X.env = (false, eval (.Name cn p1) X.env) :: starEach [] X.env := by rfl) (hpl : (backTo pos (starEach [.Name cn p1] X.env)).any (·.1) = false := by rfl) (hK : X.K = K := by rfl) :
    SE X pin (.Call (.Name "isinstance" p) [a, .Name cn p1] [] pos) (tCB (rIsiC (He.ga K cn)) (tCons ta (tCons (tC (.ref (He.ga K cn))) tNil))) (fUn (gIsiC cn) oa) := by
  subst hK
  exact ⟨pe_callB (call_isC I) hg hm hv (pa_cons ha.pe (pa_cons (pe_glob hg2 hc rfl hdb) pa_nil hs2) hs) (by decide) (by decide) hs hpl, re_un (r := fun x H Q => rIsiC (He.ga X.K cn) [x, .ref (He.ga X.K cn)] H Q) ha.rd rg_isiC⟩
end
/-- an empty tuple that the top keeps -/
def kt0B (K : PySem.W.Frag) (a : Addr) : Bool := match K.lookup a with
  | some ⟨.type "tuple", _, .seq its _, _⟩ => its.size == 0
  | _ => false
theorem kt0B_ok {K : PySem.W.Frag} {a : Addr} (h : kt0B K a = true) (S : Hp) : RpI K S [(V.ref a, D.kt [])] := by
  unfold kt0B at h
  split at h
  · rename_i dd its n sl hl
    refine RpI.kt (vs := []) (.inr ⟨_, its, n, hl, rfl, rfl, ?_, ?_⟩) rfl .nil .nil
    · have : its.size = 0 := by simpa using h
      rw [this]
      exact Nat.zero_le _
    · have : its.toList = [] := by
        have h0 : its.size = 0 := by simpa using h
        simpa using h0
      rw [this]
      exact .nil
  · cases h
/-- a tuple that the top keeps is a tuple -/
def tyNK : D → Option String
  | .kt _ => some "tuple"
  | d => tyN d
theorem At.tyK {K : PySem.W.Frag} {S H : Hp} {x : V} {o : OD} {d : D} {n : String} (h : At K S H x o) (le : Ex S H) (r : o.rd = some d) (hn : tyNK d = some n) : TyX K H x (.type n) := by
  cases d with
  | kt ds =>
    cases hn
    cases h.plain r (by simp) (by simp) (by simp) with
    | kt a b c _ =>
      rcases a with a | ⟨dd, its, m, hl, hc, _⟩
      · rcases a with a | ⟨dd, a⟩
        · exact .base (.tup (le _ _ a))
        · exact .fTuple (le _ _ a)
      · exact .kTuple hl hc
  | _ => exact h.ty le r hn
def gIsi2K : OD → OD → Option OD := fun a b => match a.rd.bind tyNK, b with
  | some n, .st (.tup [.raw (.ty T), .raw (.ty U)]) => (match kitB n T, kitB n U with
    | some r, some s => some (.st (.bl (r || s)))
    | _, _ => none)
  | _, _ => none
theorem rg_isi2K {K : PySem.W.Frag} : RG2 K (fun x y H Q => rIsiT K [x, y] H Q) gIsi2K := by
  intro S H L x y ox oy oz Q w e k
  unfold gIsi2K at e
  split at e
  · rename_i n T U hx
    split at e
    · rename_i r s h1 h2
      cases e
      obtain ⟨d, hd, hn⟩ := Option.bind_eq_some_iff.mp hx
      obtain ⟨ad, vs, rfl, ha, hl, hr⟩ := w.at0.tup w.le rfl
      match vs, hl with
      | [v1, v2], _ =>
        simp only [List.zip_cons_cons] at hr
        cases hr.head
        cases hr.tail.head
        refine ⟨x, ad, [.ty T, .ty U], .type n, [.type T, .type U], r || s, rfl, w.le _ _ ha, .cons (.ty T) (.cons (.ty U) .nil), w.at1.tyK w.le hd hn, ?_, k _ S H (ex_refl S) (w.push (.bl .nil))⟩
        refine kitAny_cons (kit_ty h1) (fun hf => ?_) fun ht => by rw [ht]; rfl
        refine kitAny_cons (kit_ty h2) (fun hf2 => ?_) fun ht => by rw [hf, ht]; rfl
        rw [hf, hf2]
        rfl
    · cases e
  · cases e
end Qy
set_option Elab.async false
set_option linter.all false
set_option maxRecDepth 100000
set_option maxHeartbeats 400000
/-! A comprehension over a list that stands in a slot and may change later: it is lent meanwhile. -/
namespace Qy
open PySem PySem.Spec PyProof.Rows L2
section
variable {X : Cx} {pin : List (Option V)} {K : PySem.W.Frag} {pos : Pos}
def fItV (i : Nat) : Fi := fun ρ => match ρ[i]? with
  | some (some (.ol us)) => (stAll us).map fun ds => (ds, ρ.set i none)
  | _ => none
theorem ril_var {i : Nat} : RIL K pin (iList K (tVar i)) (fItV i) (fun ρ ρ2 => ρ2.set i (ρ[i]?.getD none)) [i] := by
  intro S H T ρ σ F R ds ρ' w e k
  unfold fItV at e
  split at e
  · rename_i us h0
    obtain ⟨ds', hst, hpe⟩ := Option.map_eq_some_iff.mp e
    cases hpe
    have hus := stAll_eq hst
    subst hus
    obtain ⟨b, vs0, hv, hb0, hl0, w3⟩ := sat_list w h0
    obtain ⟨ws, hb1, hb2, o4⟩ := w3.own.toCell
    have hb3 : ws.length = ds.length := by simpa using hb2
    have rp : RpI K S (ws.zip ds) := by
      obtain ⟨_, fp, z, _⟩ := o4
      cases z with
      | cell a tl =>
        obtain ⟨f1, g1, _, h1, _⟩ := tl.split
        exact zip_st hb3 h1
    have w4 : Sat K pin S H (((.ref b, .cell b (.lst ws)) :: ws.zip (ds.map .st)) ++ T) (ρ.set i none) σ F := w3.with (o4.perm (.of_eq (by simp)))
    refine ⟨.ref b, hv, b, rfl, ⟨ws, SqL.of hb1⟩, k (Itl K b) _ (YAt ws) _ S H (ex_refl S) w4 (hb3 ▸ walk_list (K := K)) (fun S2 H2 L e2 o2 hm => ?_) (fun j d H2 y H3 S2 L hd e2 o2 hy => ?_) fun S2 H2 T2 ρ2 w5 => ?_⟩
    · exact SqL.of (Own.at_ (x := .ref b) (o := .cell b (.lst ws)) o2 (hm _ (by simp))).cell.2
    · obtain ⟨rfl, hvv⟩ := hy
      exact ⟨S2, ex_refl S2, o2.push ((rp_at rp hvv hd).mono e2)⟩
    · have w6 : Sat K pin S2 H2 ((.ref b, .ol (ds.map .st)) :: T2) ρ2 σ F := w5.with (Own.ofCell (w5.own.perm (.of_eq (by simp))) hb2)
      have w7 := w6.back hv
      show Sat K pin S2 H2 T2 (ρ2.set i (ρ[i]?.getD none)) σ F
      rw [h0]
      exact w7
  · cases e
theorem sil_var {i : Nat} {x : Str} {tg : Expr} {p2 : Pos} (hN : X.N[i]? = some x := by rfl) (hv : Vis X.env.scope x := by first | exact Or.inl rfl | exact Or.inr (Or.inl rfl) | exact Or.inr (Or.inr rfl)) (hd : (x == ("__debug__" : Str)) = false := by decide) (hcd : (x == ("__classdict__" : Str)) = false := by decide)
    (hK : X.K = K := by rfl) : SIL X pin tg (.Name x p2) (iList K (tVar i)) (fItV i) (fun ρ ρ2 => ρ2.set i (ρ[i]?.getD none)) [i] := by
  subst hK
  exact ⟨pi_list (pe_var hN hv hd hcd), ril_var⟩
def fLcL (own : List Nat) (it : Fi) (bk : Rho → Rho → Rho) (tg : Fg) (tt : Ft) (te : Fe) : Fe := fun ρ => match it ρ with
  | none => none
  | some (ds, ρ1) => match compL own tg tt te ds (wipeR ρ1 own) [] with
    | none => none
    | some (acc, ρ2) => some (.ol acc, bk ρ (wipeR ρ2 own))
theorem re_lcL {wi : TI} {fi : Fi} {bk : Rho → Rho → Rho} {g : TG} {fg : Fg} {sl sl' own : List Nat} {tt : TT} {ft : Ft} {te : TE} {fe : Fe} (hi : RIL K pin wi fi bk sl') (hg : RG K pin sl g fg) (ht : RT K pin tt ft) (he : RE K pin te fe) (hs : ∀ i ∈ sl, i ∈ own) (hp : ∀ i ∈ own, NoPin pin i) :
    RE K pin (tLc wi g tt te own) (fLcL own fi bk fg ft fe) := by
  intro S H T ρ σ F Q od ρ' w e k
  unfold fLcL at e
  split at e
  · cases e
  · rename_i ds ρ1 q
    split at e
    · cases e
    · rename_i acc ρ2 q2
      cases e
      refine hi S H T ρ σ F _ ds ρ1 w q fun J G Y Xs S' H' x w' W hG hY hB D hD => ?_
      have pin0 := w'.pin
      refine lc_it W (fun i H => ∃ S2 ρ3 ac, Ex S' S2 ∧ Sat K pin S2 H ((.ref D, .ol ac) :: (Xs ++ T)) ρ3 (wipe σ own) F ∧ compL own fg ft fe (ds.drop i) ρ3 ac = some (acc, ρ2)) ?_ ?_ ?_ ?_
      · refine ⟨S', wipeR ρ1 own, [], ex_refl S', ?_, by simpa using q2⟩
        have w1 := w'.into (vs := own) hp
        exact w1.with (Own.newL (vs := []) (os := []) w1.own rfl hD)
      · rintro i H _ ⟨S2, ρ3, ac, e2, w2, _⟩
        exact hG S2 H _ e2 w2.own fun z hz => by
          simp only [List.cons_append, List.mem_cons, List.mem_append]
          exact .inr (.inl (.inl hz))
      · rintro i y H H2 hi' ⟨S2, ρ3, ac, e2, w2, l2⟩ hy
        obtain ⟨d, hd⟩ : ∃ d, ds[i]? = some d := ⟨ds[i], by simp [hi']⟩
        have hdr : ds.drop i = d :: ds.drop (i + 1) := by
          rw [List.drop_eq_getElem_cons hi']
          congr 1
          have := List.getElem?_eq_getElem hi'
          rw [this] at hd
          exact Option.some.inj hd
        rw [hdr] at l2
        obtain ⟨S3, e3, o3⟩ := hY i d H y H2 S2 _ hd e2 w2.own hy
        have w3 : Sat K pin S3 H2 ((y, .st d) :: (.ref D, .ol ac) :: (Xs ++ T)) ρ3 (wipe σ own) F := w2.with o3
        unfold compL at l2
        split at l2
        · cases l2
        · rename_i ρ4 q4
          refine hg S3 H2 _ ρ3 (wipe σ own) F y (.st d) _ ρ4 w3 q4 fun S4 H4 σ4 e4 on w4 => ?_
          have hw := wipe_only on hs
          refine ⟨hw, ?_⟩
          have e04 : Ex S' S4 := ex_trans e2 (ex_trans e3 e4)
          split at l2
          · cases l2
          · rename_i ρ5 q5
            refine ht S4 H4 _ ρ4 σ4 F _ _ _ w4 q5 fun S5 H5 e5 w5 => ?_
            exact ⟨S5, wipeR ρ5 own, ac, ex_trans e04 e5, w5.outof hw hp, l2⟩
          · rename_i ρ5 q5
            refine ht S4 H4 _ ρ4 σ4 F _ _ _ w4 q5 fun S5 H5 e5 w5 => ?_
            show te σ4 H5 _
            split at l2
            · cases l2
            · rename_i o ρ6 q6
              split at l2
              · rename_i hb
                refine he S5 H5 _ ρ5 σ4 F _ _ _ w5 q6 fun v S6 H6 e6 w6 => ?_
                obtain ⟨vs, h1, h2, h3⟩ := w6.own.app
                refine ⟨vs, h1, by rw [h2]; exact big_lt hb, S6, wipeR ρ6 own, ac ++ [o], ex_trans e04 (ex_trans e5 e6), ?_, l2⟩
                exact (w6.with h3).outof hw hp
              · cases l2
      · rintro H ⟨S2, ρ3, ac, e2, w2, l2⟩
        rw [List.drop_length] at l2
        cases l2
        have w3 : Sat K pin S2 H ((.ref D, .ol acc) :: (Xs ++ T)) (wipeR ρ2 own) (wipe σ own) F := by
          have := w2.into (vs := own) hp
          have hh : wipe (wipe σ own) own = wipe σ own := wipe_only (sl := []) (Only.refl _) (fun _ z => nomatch z)
          rw [hh] at this
          exact this
        have w4 := w3.leave pin0
        have w5 : Sat K pin S2 H (Xs ++ ((.ref D, .ol acc) :: T)) (wipeR ρ2 own) σ F := w4.with (w4.own.perm (by
          rw [List.append_assoc]
          simp only [List.cons_append, List.append_assoc]
          exact List.perm_middle.symm))
        exact k _ S2 H (ex_trans x e2) (hB S2 H _ _ w5)
theorem se_lcL {elt tg iter : Expr} {ifs : List Expr} {scope : Scope} {own : List (Str × Nat)} {wi : TI} {fi : Fi} {bk : Rho → Rho → Rho} {g : TG} {fg : Fg} {sl sl' : List Nat} {tt : TT} {ft : Ft} {te : TE} {fe : Fe} (hc : X.calm = true) (hN : X.N.Nodup) (hi : SIL X pin tg iter wi fi bk sl') (ok : BlkOk X.N X.env.scope scope own)
    (hp : ∀ i ∈ own.map (·.2), NoPin pin i) (hsl : ∀ i ∈ sl, i ∈ own.map (·.2))
    (hg : ∀ (s : Shared) (H : Hp) (C : Addr) (cl : List (Str × Addr)) (fp : List Addr), SG (X.blk s H scope (compEnvC scope cl C X.env) fp) pin sl tg g fg) (ht : ∀ (s : Shared) (H : Hp) (C : Addr) (cl : List (Str × Addr)) (fp : List Addr), STL (X.blk s H scope (compEnvC scope cl C X.env) fp) pin ifs tt ft)
    (he : ∀ (s : Shared) (H : Hp) (C : Addr) (cl : List (Str × Addr)) (fp : List Addr), SE (X.blk s H scope (compEnvC scope cl C X.env) fp) pin elt te fe) (hs : ∀ x, foldedSetIterable iter X.env x = pure x := by intro _; rfl) :
    SE X pin (.ListComp elt [⟨tg, iter, ifs, 0⟩] scope pos) (tLc wi g tt te (own.map (·.2))) (fLcL (own.map (·.2)) fi bk fg ft fe) :=
  ⟨pe_lc hc hN hi.pe ok (fun s H C cl fp => (hg s H C cl fp).pe) (fun s H C cl fp => (ht s H C cl fp).pe) (fun s H C cl fp => (he s H C cl fp).pe) hs,
   re_lcL hi.rd (hg X.s_0 X.H_0 0 [] []).rd (ht X.s_0 X.H_0 0 [] []).rd (he X.s_0 X.H_0 0 [] []).rd hsl hp⟩
end
end Qy
set_option Elab.async false
set_option linter.all false
set_option maxRecDepth 100000
namespace Qy
open PySem PySem.Spec PyProof.Rows L2 ClX
section
variable {M : Model} {prog : Program} {w : World} {A : Around} {E : Value → Shared → Prop} {s : Shared} {K : PySem.W.Frag} {x y C f : Addr} {ox : Obj} {od : Option Obj}
/-! ### the first one's __ne__ is object's own -/
theorem bound_ne {more : List Value} {Q : Option Value → Shared → Prop} (kin : K.In s.heap) (J : PySem.W.InstAt s.heap x ox C od) (hs : PySem.W.findIn K (.ref C) "__ne__" = some (some (.builtin "object.__ne__")))
    (q : wpAny M A (call (.builtin "object.__ne__") (.ref x :: more)) (fun v => Q (some v)) E s) : wpAny M A (callSpecialIfBound? (.ref x) "__ne__" more) Q E s := by
  have last : wpAny M A (call (.builtin "object.__ne__") ([.ref x] ++ more) >>= fun v => pure (some v)) Q E s := wpAny_bind (wpAny_mono q (fun _ _ z => wpAny_pure z) fun _ _ z => z)
  simp only [callSpecialIfBound?, bindSpecialIfBound?]
  refine wpAny_holding (wpAny_bind (wpAny_bind (wpAny_bind (J.type.here ((PySem.W.looks_findIn kin hs).here (wpAny_bind (wpAny_askSetting (wpAny_ite ?_))))))))
  split
  · exact wpAny_bind (wpAny_of_eq (F.cmp_object.ne.bind _) (wpAny_pure (by exact last)))
  · exact wpAny_tryCatch (wpAny_bind (wpAny_of_eq (F.cmp_object.ne.bind _) (wpAny_pure (by exact last))))
theorem ne_inner {Q : Fin → Shared → Prop} (hu : A.units < cLine) (kin : K.In s.heap) (J : PySem.W.InstAt s.heap x ox C od) (hs : PySem.W.findIn K (.ref C) "__eq__" = some (some (.ref f))) (hf : PySem.W.isFn K (.ref f) = true)
    (q : wpAny (model prog w) A (call (.ref f) [.ref x, .ref y]) (fun v s' => ∃ b, v = .bool b ∧ Q (.done (.ret (.bool (!b)))) s') E s) : wpAny (model prog w) A (Builtin.«object.__ne__» ⟨[.ref x, .ref y], []⟩) Q E s := by
  unfold Builtin.«object.__ne__»
  repeat (first
    | with_reducible refine wpAny_cRoomFor hu ?_
    | (refine wpAny_bind (m := callSpecialIfBound? (.ref x) (Str.ofString "__eq__") [.ref y]) (PySem.W.ifBound_K kin J hs hf (wpAny_mono q (fun r s' hr => by
          obtain ⟨b, rfl, hq⟩ := hr
          repeat (first | exact hq | exact wpAny_pure hq | exact wpAny_truthy_bool hq | (refine wpAny_bind (m := truthy (.bool _)) (wpAny_truthy_bool ?_)) | wp_step)) fun _ _ z => z)))
    | wp_step)
theorem ne_own {Q : Value → Shared → Prop} {oy : Obj} {oe : Option Obj} (hu : A.units + 1 < cLine) (kin : K.In s.heap) (J : PySem.W.InstAt s.heap x ox C od) (J2 : PySem.W.InstAt s.heap y oy C oe)
    (hn : PySem.W.findIn K (.ref C) "__ne__" = some (some (.builtin "object.__ne__"))) (hm : PySem.W.mroIn K C (.type "object") = some true) (hs : PySem.W.findIn K (.ref C) "__eq__" = some (some (.ref f))) (hf : PySem.W.isFn K (.ref f) = true)
    (q : wpAny (model prog w) A.in1 (call (.ref f) [.ref x, .ref y]) (fun v s' => ∃ b, v = .bool b ∧ Q (.bool (!b)) s') E s) : wpAny (model prog w) A (richCompare .NotEq (.ref x) (.ref y)) Q E s := by
  have one : wpAny (model prog w) A (tryCompare (.ref x) "__ne__" (.ref y)) (fun r s' => ∃ v, r = some v ∧ Q v s') E s := by
    unfold tryCompare
    refine wpAny_bind (bound_ne kin J hn (wpAny_call (codeAny_call_builtin F.cmp_object.ne.plain F.cmpEntry_ne (PySem.W.check_slot F.cmpKind_ne F.cmpSplit_ne (J.type.andThen (PySem.W.looks_mroIn kin hm)) (F.cmpArgs_ne _ _)
      (ne_inner (A := A.in1) hu kin J hs hf (wpAny_mono q (fun v s' hv => ?_) fun _ _ z => z))))))
    obtain ⟨b, rfl, hq⟩ := hv
    exact ⟨b, rfl, wpAny_pure ⟨_, rfl, hq⟩⟩
  unfold richCompare
  simp only [oneThing_ref]
  refine wpAny_holding (wpAny_bind (wpAny_cRoomFor (Nat.lt_of_succ_lt hu) ?_))
  rw [cmpInfo_NotEq]
  dsimp only
  refine wpAny_bind (J.type.here (wpAny_bind (J2.type.here ?_)))
  rw [show (Value.ref C != Value.ref C) = false from by simp]
  simp only [Bool.false_eq_true, if_false]
  refine wpAny_bind (wpAny_pure ?_)
  simp only [Bool.false_eq_true, if_false]
  refine wpAny_bind (wpAny_mono one (fun r s' z => ?_) fun _ _ z => z)
  obtain ⟨v, rfl, hq⟩ := z
  exact wpAny_pure hq
end
section
variable {X : Cx} {pin : List (Option V)} {K : PySem.W.Frag} {S S' H : Hp} {e a b c o : Expr} {es : List Expr} {t ta tb tc tj : TE} {tA : TA} {fA : Fa} {f fj : Fe} {oa ob : Fo} {pos p apos : Pos} {L T F : List It} {ρ ρ2 : Rho} {σ : L2.St} {cn m : Str} {mi : Mir} {k : Nat} {ps : List Str} {bk : List (Option Nat)}
/-- one call, one step further in -/
theorem run_in {CX : CXT} {fa : Addr} {fd : FuncData} {sp : Sp} {E : XK} {args : Args} {us : List Value} {vs : List V} {pins : List (Addr × Obj)} {z : Shared} {Q : VK} (F : FnG X.prog X.w X.K X.mg X.base CX k fa fd ps sp) (gd : X.A.guards = some []) (hr : Room (k + 1) X.A) (hx : Passes CX X E) (I : Inv X pins σ H z)
    (hb : BindsTo z fd args (ps.zip us)) (r : Vals vs us) (h : sp vs H Q E) : codeAny (model X.prog X.w) X.A.in1 (.call (.ref fa) args) (fun rr z2 => match rr with | .ok (.ret u) => EP X pins σ Q u z2 | .ok _ => False | .error er => X.xe er z2) z := by
  refine codeAny_mono (F.run X.A.in1 X.stack z H args us vs Q E gd hr.in1 I.env0.in1 hb r h) fun rr z2 hq => ?_
  cases rr with
  | error er => exact hx pins σ H z er z2 I hq
  | ok fl => cases fl with
    | ret u => exact I.after hq
    | next | brk | cont => exact hq.elim
theorem wp_in {fa : Addr} {us : List Value} {pins : List (Addr × Obj)} {z : Shared} {Q : VK} (h : codeAny (model X.prog X.w) X.A.in1 (.call (.ref fa) ⟨us, []⟩) (fun rr z2 => match rr with | .ok (.ret u) => EP X pins σ Q u z2 | .ok _ => False | .error er => X.xe er z2) z) :
    wpAny (model X.prog X.w) X.A.in1 (call (.ref fa) us) (EP X pins σ Q) X.xe z := wpAny_call (codeAny_mono h fun rr z2 q => by
  cases rr with
  | error er => exact q
  | ok fl => cases fl with
    | ret u => exact q
    | next | brk | cont => exact q.elim)
/-! ### != of one's own -/
structure NeE (K : PySem.W.Frag) (cn : Str) : Prop where
  ne : PySem.W.findIn K (.ref (He.ga K cn)) "__ne__" = some (some (.builtin "object.__ne__"))
  mro : PySem.W.mroIn K (He.ga K cn) (.type "object") = some true
def rOwnNe (K : PySem.W.Frag) (cn : Str) (sp : Sp) : R2 := fun x y H Q => ∃ a dx fs b dy gs, x = .ref a ∧ y = .ref b ∧ H a = some (.ins (He.ga K cn) dx fs) ∧ H b = some (.ins (He.ga K cn) dy gs) ∧ sp [x, y] H (fun v H' => ∃ d, v = .bl d ∧ Q (.bl (!d)) H') E0
theorem op_ownNe (N : NeE X.K cn) (c : CalM X.prog X.w X.K X.mg X.base cn "__eq__" k ps mi) (gd : X.A.guards = some []) (hr : Room (k + 1) X.A) : OpR X (compareOp .NotEq) (rOwnNe X.K cn (spM X.K ps.length mi)) := by
  intro pins s σ H x y v u Q I rx ry h
  obtain ⟨ad, dx, fs, bd, dy, gs, rfl, rfl, ha, hb2, q⟩ := h
  cases rx
  cases ry
  obtain ⟨f, fd, h1, h2, h3, h4, h5⟩ := c.ex
  obtain ⟨mA, O1, _⟩ := ins_get I.hok ha
  obtain ⟨od, J, _⟩ := O1.look
  obtain ⟨mB, O2, _⟩ := ins_get I.hok hb2
  obtain ⟨od2, J2, _⟩ := O2.look
  have hl : ([Value.ref ad, Value.ref bd] : List Value).length = ps.length := by
    have := h5.len _ _ _ _ q
    simpa using this
  have hb := h4 s [Value.ref ad, Value.ref bd] I.kIn (by simpa using hl)
  rw [List.append_nil] at hb
  have z := wp_in (run_in (vs := [.ref ad, .ref bd]) h5 gd hr pass0 I hb (.cons rfl (.cons rfl .nil)) q)
  show wpAny _ _ (richCompare .NotEq _ _) _ _ _
  have hu : X.A.units + 1 < cLine := by have := hr.un; omega
  refine ne_own hu I.kIn J J2 N.ne N.mro h1 h2 (wpAny_mono z (fun r z' hz => ?_) fun _ _ y => y)
  obtain ⟨v, H', I', rv, ⟨d, hv, q'⟩⟩ := hz
  subst hv
  cases rv
  exact ⟨d, rfl, .bl (!d), H', I', rfl, q'⟩
def gOwnNe (cn : Str) (m : Mir) : OD → OD → Option OD
  | .st (.ins c fs), .st (.ins c' gs) => if c = cn ∧ c' = cn then (match m [.st (.ins c fs), .st (.ins c' gs)] with
    | some (.st (.bl d), outs) => if outs.length = 2 then some (.st (.bl (!d))) else none
    | _ => none) else none
  | _, _ => none
theorem rg_ownNe : RG2 K (rOwnNe K cn (spM K 2 mi)) (gOwnNe cn mi) := by
  intro S H L x y ox oy oz Q w e k
  unfold gOwnNe at e
  split at e
  · rename_i c fs c' gs
    split at e
    · rename_i hc
      obtain ⟨rfl, rfl⟩ := hc
      split at e
      · rename_i d outs hm
        split at e
        · rename_i hl
          cases e
          cases w.at1.st with
          | @ins ad _ dx vs _ _ a1 a2 a3 _ =>
            cases w.at0.st with
            | @ins bd _ dy us _ _ b1 b2 b3 _ =>
              refine ⟨ad, dx, vs, bd, dy, us, rfl, rfl, w.le _ _ a1, w.le _ _ b1, S, L, [.st (.ins c' fs), .st (.ins c' gs)], .st (.bl d), outs, rfl, rfl, hl, w.perm (.swap _ _ _), hm, fun v S' H' e' o' => ?_⟩
              have hv : v = .bl d := by cases o'.known; rfl
              refine ⟨d, hv, k _ S' H' e' ?_⟩
              have o2 : Own K S' H' [] ((v, .st (.bl d)) :: L) := Own.sub o' ⟨its outs (([.ref ad, .ref bd] : List V).map some), List.perm_middle.symm⟩
              have o3 : Own K S' H' [] L := o2.tl
              have r1' : Rp K S' (.ref ad) (.ins c' fs) := RpI.mono e' (.ins a1 a2 a3 .nil)
              have r2' : Rp K S' (.ref bd) (.ins c' gs) := RpI.mono e' (.ins b1 b2 b3 .nil)
              exact ((o3.push r1').push r2').push (.bl .nil)
        · cases e
      · cases e
    · cases e
  · cases e
/-! ### a text in one's own -/
def rOwnIn (K : PySem.W.Frag) (cn : Str) (nt : Bool) (sp : Sp) : R2 := fun x y H Q => ∃ a dx fs z, x = .str z ∧ y = .ref a ∧ H a = some (.ins (He.ga K cn) dx fs) ∧ sp [y, x] H (fun v H' => ∃ d, v = .bl d ∧ Q (.bl (d != nt)) H') E0
theorem op_ownIn (c : CalM X.prog X.w X.K X.mg X.base cn "__contains__" k ps mi) (gd : X.A.guards = some []) (hr : Room k X.A) : OpR X (compareOp .In) (rOwnIn X.K cn false (spM X.K ps.length mi)) := by
  intro pins s σ H x y v u Q I rx ry h
  obtain ⟨ad, dx, fs, z, rfl, rfl, ha, q⟩ := h
  obtain ⟨tk, rfl⟩ := rx
  cases ry
  obtain ⟨f, fd, h1, h2, h3, h4, h5⟩ := c.ex
  obtain ⟨m, hF⟩ := I.fr
  obtain ⟨mA, O1, _⟩ := ins_get I.hok ha
  obtain ⟨od, J, _⟩ := O1.look
  have hl : ([Value.ref ad, Value.str z tk] : List Value).length = ps.length := by
    have := h5.len _ _ _ _ q
    simpa using this
  have hb := h4 s [Value.ref ad, Value.str z tk] I.kIn (by simpa using hl)
  rw [List.append_nil] at hb
  have zz := wp_g (run_g (vs := [.ref ad, .str z]) h5 gd hr pass0 I hb (.cons rfl (.cons ⟨tk, rfl⟩ .nil)) q)
  refine PySem.W.in_K hF I.ok.mod.kin J h1 h2 (wpAny_mono zz (fun r z' hz => ?_) fun _ _ y => y)
  obtain ⟨v, H', I', rv, ⟨d, hv, q'⟩⟩ := hz
  subst hv
  cases rv
  exact wpAny_truthy_bool ⟨.bl d, H', I', rfl, by simpa using q'⟩
theorem op_ownNotIn (c : CalM X.prog X.w X.K X.mg X.base cn "__contains__" k ps mi) (gd : X.A.guards = some []) (hr : Room k X.A) : OpR X (compareOp .NotIn) (rOwnIn X.K cn true (spM X.K ps.length mi)) := by
  intro pins s σ H x y v u Q I rx ry h
  obtain ⟨ad, dx, fs, z, rfl, rfl, ha, q⟩ := h
  obtain ⟨tk, rfl⟩ := rx
  cases ry
  obtain ⟨f, fd, h1, h2, h3, h4, h5⟩ := c.ex
  obtain ⟨m, hF⟩ := I.fr
  obtain ⟨mA, O1, _⟩ := ins_get I.hok ha
  obtain ⟨od, J, _⟩ := O1.look
  have hl : ([Value.ref ad, Value.str z tk] : List Value).length = ps.length := by
    have := h5.len _ _ _ _ q
    simpa using this
  have hb := h4 s [Value.ref ad, Value.str z tk] I.kIn (by simpa using hl)
  rw [List.append_nil] at hb
  have zz := wp_g (run_g (vs := [.ref ad, .str z]) h5 gd hr pass0 I hb (.cons rfl (.cons ⟨tk, rfl⟩ .nil)) q)
  refine PySem.W.notIn_K hF I.ok.mod.kin J h1 h2 (wpAny_mono zz (fun r z' hz => ?_) fun _ _ y => y)
  obtain ⟨v, H', I', rv, ⟨d, hv, q'⟩⟩ := hz
  subst hv
  cases rv
  exact wpAny_truthy_bool ⟨.bl (!d), H', I', rfl, by simpa using q'⟩
def gOwnIn (cn : Str) (nt : Bool) (m : Mir) : OD → OD → Option OD
  | .st (.str z), .st (.ins c fs) => if c = cn then (match m [.st (.ins c fs), .st (.str z)] with
    | some (.st (.bl d), outs) => if outs.length = 2 then some (.st (.bl (d != nt))) else none
    | _ => none) else none
  | _, _ => none
theorem rg_ownIn {nt : Bool} : RG2 K (rOwnIn K cn nt (spM K 2 mi)) (gOwnIn cn nt mi) := by
  intro S H L x y ox oy oz Q w e k
  unfold gOwnIn at e
  split at e
  · rename_i z c fs
    split at e
    · rename_i hc
      subst hc
      split at e
      · rename_i d outs hm
        split at e
        · rename_i hl
          cases e
          have r1 := w.at1.st
          cases r1
          cases w.at0.st with
          | @ins ad _ dx vs _ _ a1 a2 a3 _ =>
            refine ⟨ad, dx, vs, z, rfl, rfl, w.le _ _ a1, S, L, [.st (.ins c fs), .st (.str z)], .st (.bl d), outs, rfl, rfl, hl, w, hm, fun v S' H' e' o' => ?_⟩
            have hv : v = .bl d := by cases o'.known; rfl
            refine ⟨d, hv, k _ S' H' e' ?_⟩
            have o2 : Own K S' H' [] ((v, .st (.bl d)) :: L) := Own.sub o' ⟨its outs (([.ref ad, .str z] : List V).map some), List.perm_middle.symm⟩
            have o3 : Own K S' H' [] L := o2.tl
            have r1' : Rp K S' (.ref ad) (.ins c fs) := RpI.mono e' (.ins a1 a2 a3 .nil)
            exact ((o3.push (show Rp K S' (.str z) (.str z) from .str .nil)).push r1').push (.bl .nil)
        · cases e
      · cases e
    · cases e
  · cases e
end
end Qy
set_option Elab.async false
set_option linter.all false
set_option maxRecDepth 100000
namespace Qy
open PySem PySem.Spec PyProof.Rows L2 ClX
section
variable {X : Cx} {pin : List (Option V)} {K : PySem.W.Frag} {S S' H : Hp} {e a b c o : Expr} {es : List Expr} {t ta tb tc tj : TE} {tA : TA} {fA : Fa} {f fj : Fe} {oa ob : Fo} {pos p apos : Pos} {L T F : List It} {ρ ρ2 : Rho} {σ : L2.St} {cn m : Str} {mi : Mir} {k : Nat} {ps : List Str} {bk : List (Option Nat)}
/-! ### len of one's own -/
def rLenOwn (K : PySem.W.Frag) (cn : Str) (sp : Sp) : List V → Hp → VK → Prop := fun xs H Q => ∃ a dx fs, xs = [.ref a] ∧ H a = some (.ins (He.ga K cn) dx fs) ∧ sp [.ref a] H (fun v H' => ∃ n, v = .int n ∧ (0 ≤ n ∧ n < 2 ^ 63) ∧ Q (.int n) H') E0
theorem call_lenOwn (c : CalM X.prog X.w X.K X.mg X.base cn "__len__" k ps mi) (gd : X.A.guards = some []) (hr : Room (k + 1) X.A) : CallR X (.builtin "len") (rLenOwn X.K cn (spM X.K ps.length mi)) := by
  intro pins s σ H xs us Q I rv h
  obtain ⟨ad, dx, fs, rfl, ha, q⟩ := h
  obtain ⟨u, rfl, ru⟩ := rv.one
  cases ru
  obtain ⟨f, fd, h1, h2, h3, h4, h5⟩ := c.ex
  obtain ⟨m, hF⟩ := I.fr
  obtain ⟨mA, O1, _⟩ := ins_get I.hok ha
  obtain ⟨od, J, _⟩ := O1.look
  have hl : ([Value.ref ad] : List Value).length = ps.length := by
    have := h5.len _ _ _ _ q
    simpa using this
  have hb := h4 s [Value.ref ad] I.kIn (by simpa using hl)
  rw [List.append_nil] at hb
  have z := wp_in (run_in (vs := [.ref ad]) h5 gd hr pass0 I hb (.cons rfl .nil) q)
  refine PySem.W.len_K hF I.ok.mod.kin J h1 h2 (wpAny_mono z (fun r z' hz => ?_) fun _ _ y => y)
  obtain ⟨v, H', I', rv, ⟨n, hv, hn, q'⟩⟩ := hz
  subst hv
  obtain ⟨tk, rfl⟩ := rv
  exact ⟨hn, .int n, H', I'.kept (t' := z'.toks + 1) (fun b o e => e), ⟨_, rfl⟩, q'⟩
def gLenOwn (cn : Str) (m : Mir) : OD → Option OD
  | .st (.ins c fs) => if c = cn then (match m [.st (.ins c fs)] with
    | some (.st (.int n), outs) => if outs.length = 1 ∧ 0 ≤ n ∧ n < 2 ^ 63 then some (.st (.int n)) else none
    | _ => none) else none
  | _ => none
theorem rg_lenOwn : RG1 K (fun x H Q => rLenOwn K cn (spM K 1 mi) [x] H Q) (gLenOwn cn mi) := by
  intro S H L x ox oz Q w e k
  unfold gLenOwn at e
  split at e
  · rename_i c fs
    split at e
    · rename_i hc
      subst hc
      split at e
      · rename_i n outs hm
        split at e
        · rename_i hl
          cases e
          cases w.at0.st with
          | @ins ad _ dx vs _ _ a1 a2 a3 _ =>
            refine ⟨ad, dx, vs, rfl, w.le _ _ a1, S, L, [.st (.ins c fs)], .st (.int n), outs, rfl, rfl, hl.1, w, hm, fun v S' H' e' o' => ?_⟩
            have hv : v = .int n := by cases o'.known; rfl
            refine ⟨n, hv, hl.2, k _ S' H' e' ?_⟩
            have o2 : Own K S' H' [] ((v, .st (.int n)) :: L) := Own.sub o' ⟨its outs (([.ref ad] : List V).map some), List.perm_middle.symm⟩
            have r1' : Rp K S' (.ref ad) (.ins c fs) := RpI.mono e' (.ins a1 a2 a3 .nil)
            exact (o2.tl.push r1').push (.int .nil)
        · cases e
      · cases e
    · cases e
  · cases e
/-! ### operators of one's own, the right side of the same class -/
def rOwnO (K : PySem.W.Frag) (cn : Str) (sp : Sp) : R2 := fun x y H Q => ∃ a dx fs b dy gs, x = .ref a ∧ y = .ref b ∧ H a = some (.ins (He.ga K cn) dx fs) ∧ H b = some (.ins (He.ga K cn) dy gs) ∧ sp [x, y] H (fun v H' => (∃ b, v = .ref b) ∧ Q v H') E0
theorem op_ownO {op : Operator} (hfi : PySem.W.selfFirst X.K (He.ga X.K cn) = true) (c : CalM X.prog X.w X.K X.mg X.base cn (PySem.dunder op.info.2) k ps mi) (gd : X.A.guards = some []) (hr : Room k X.A) : OpR X (binaryOp op) (rOwnO X.K cn (spM X.K ps.length mi)) := by
  intro pins s σ H x y v u Q I rx ry h
  obtain ⟨ad, dx, fs, bd, dy, gs, rfl, rfl, ha, hb2, q⟩ := h
  cases rx
  cases ry
  obtain ⟨f, fd, h1, h2, h3, h4, h5⟩ := c.ex
  obtain ⟨m, hF⟩ := I.fr
  obtain ⟨mA, O1, _⟩ := ins_get I.hok ha
  obtain ⟨od, J, _⟩ := O1.look
  obtain ⟨mB, O2, _⟩ := ins_get I.hok hb2
  obtain ⟨od2, J2, _⟩ := O2.look
  have hl : ([Value.ref ad, Value.ref bd] : List Value).length = ps.length := by
    have := h5.len _ _ _ _ q
    simpa using this
  have hb := h4 s [Value.ref ad, Value.ref bd] I.kIn (by simpa using hl)
  rw [List.append_nil] at hb
  have z := wp_g (run_g (vs := [.ref ad, .ref bd]) h5 gd hr pass0 I hb (.cons rfl (.cons rfl .nil)) q)
  refine PySem.W.binop_K hF I.ok.mod.kin J J2.type hfi h1 h2 (wpAny_mono z (fun r z' hz => ?_) fun _ _ y => y)
  obtain ⟨v, H', I', rv, ⟨b, hv⟩, q'⟩ := hz
  subst hv
  cases rv
  exact ⟨.ref b, H', I', rfl, q'⟩
def gOwnO (cn : Str) (m : Mir) : OD → OD → Option OD
  | .st (.ins c fs), .st (.ins c' gs) => if c = cn ∧ c' = cn then (match m [.st (.ins c fs), .st (.ins c' gs)] with
    | some (.st (.ins c2 hs), outs) => if outs.length = 2 then some (.st (.ins c2 hs)) else none
    | _ => none) else none
  | _, _ => none
theorem rg_ownO : RG2 K (rOwnO K cn (spM K 2 mi)) (gOwnO cn mi) := by
  intro S H L x y ox oy oz Q w e k
  unfold gOwnO at e
  split at e
  · rename_i c fs c' gs
    split at e
    · rename_i hc
      obtain ⟨rfl, rfl⟩ := hc
      split at e
      · rename_i c2 hs outs hm
        split at e
        · rename_i hl
          cases e
          cases w.at1.st with
          | @ins ad _ dx vs _ _ a1 a2 a3 _ =>
            cases w.at0.st with
            | @ins bd _ dy us _ _ b1 b2 b3 _ =>
              refine ⟨ad, dx, vs, bd, dy, us, rfl, rfl, w.le _ _ a1, w.le _ _ b1, S, L, [.st (.ins c' fs), .st (.ins c' gs)], .st (.ins c2 hs), outs, rfl, rfl, hl, w.perm (.swap _ _ _), hm, fun v S' H' e' o' => ?_⟩
              have hv : ∃ b, v = .ref b := by
                cases o'.known
                exact ⟨_, rfl⟩
              refine ⟨hv, k v S' H' e' ?_⟩
              have o2 : Own K S' H' [] ((v, .st (.ins c2 hs)) :: L) := Own.sub o' ⟨its outs (([.ref ad, .ref bd] : List V).map some), List.perm_middle.symm⟩
              have r1' : Rp K S' (.ref ad) (.ins c' fs) := RpI.mono e' (.ins a1 a2 a3 .nil)
              have r2' : Rp K S' (.ref bd) (.ins c' gs) := RpI.mono e' (.ins b1 b2 b3 .nil)
              exact ((o2.push r1').push r2').perm ((List.Perm.cons _ (.swap _ _ _)).trans (.swap _ _ _))
        · cases e
      · cases e
    · cases e
  · cases e
/-! ### methods: o.m() and o.m(b), o and b at rest -/
def rMeth0 (K : PySem.W.Frag) (cn m : Str) (sp : Sp) : V → Hp → VK → Prop := fun x H Q => ∃ a dx fs, x = .ref a ∧ H a = some (.ins (He.ga K cn) dx fs) ∧ fs.lookup m = none ∧ sp [x] H Q E0
theorem pe_m0 {pl : Sem Bool} (he : PE X o ta) (C : Cls X.K (He.ga X.K cn)) (c : CalM X.prog X.w X.K X.mg X.base cn m k ps mi) (gd : X.A.guards = some []) (hr : Room k X.A)
    (ht : eval (.Call (.Attribute o m apos) [] [] pos) X.env = (do
      let ov ← eval o X.env
      standAt apos.atName
      let (fx, fst) ← holding [ov] (getMethod ov m pl)
      callWith pos fx fst (backTo pos (starEach [] X.env)) (backToKw pos (keywordEach [] X.env))) := by rfl) : PE X (.Call (.Attribute o m apos) [] [] pos) (tUn (rMeth0 X.K cn m (spM X.K ps.length mi)) ta) := by
  obtain ⟨f, fd, h1, h2, h3, h4, h5⟩ := c.ex
  refine ⟨fun pins s σ H Q I h => PySem.W.methodCall_KW (pl := pl) (thn (he.run pins s σ H _ I h) fun u s1 ⟨x, H1, I1, rx, a, dx, fs, ex, ea, l, q⟩ => ?_) ht⟩
  subst ex
  obtain rfl : u = Value.ref a := rx
  have hl : ([Value.ref a] : List Value).length = ps.length := by
    have := h5.len _ _ _ _ q
    simpa using this
  have hb := h4 s1 [Value.ref a] I1.kIn (by simpa using hl)
  rw [List.append_nil] at hb
  exact getmeth_ok I1 ea C ⟨h1, h2, h3⟩ l (PySem.W.callWith_K0 (first := [.ref a]) I1.kIn h3 (wp_g (run_g (us := [.ref a]) (vs := [.ref a]) h5 gd hr pass0 I1 hb (.cons rfl .nil) q)))
theorem lookup_no {f : Str} : ∀ {vs : List (Str × V)} {ds : List (Str × D)}, vs.map (·.1) = ds.map (·.1) → ds.lookup f = none → vs.lookup f = none
  | [], [], _, _ => rfl
  | [], _ :: _, h, _ => by cases h
  | _ :: _, [], h, _ => by cases h
  | (n, v) :: vs, (n', d) :: ds, h, hd => by
    simp only [List.map_cons, List.cons.injEq] at h
    obtain ⟨rfl, h⟩ := h
    simp only [List.lookup_cons] at hd ⊢
    cases q : f == n with
    | true => rw [q] at hd; cases hd
    | false => rw [q] at hd; exact lookup_no h hd
def gMeth0 (cn m : Str) (mi : Mir) : OD → Option OD
  | .st (.ins c fs) => if c = cn ∧ (fs.lookup m).isNone = true then (match mi [.st (.ins c fs)] with
    | some (r, outs) => if outs.length = 1 then some r else none
    | _ => none) else none
  | _ => none
theorem rg_meth0 : RG1 K (rMeth0 K cn m (spM K 1 mi)) (gMeth0 cn m mi) := by
  intro S H L x ox oz Q w e k
  unfold gMeth0 at e
  split at e
  · rename_i c fs
    split at e
    · rename_i hc
      obtain ⟨rfl, hn⟩ := hc
      split at e
      · rename_i r outs hm
        split at e
        · rename_i hl
          cases e
          cases w.at0.st with
          | @ins ad _ dx vs _ _ a1 a2 a3 _ =>
            refine ⟨ad, dx, vs, rfl, w.le _ _ a1, lookup_no a2 (by simpa using hn), S, L, [.st (.ins c fs)], _, outs, rfl, rfl, hl, w, hm, fun v S' H' e' o' => k _ S' H' e' ?_⟩
            have o2 : Own K S' H' [] ((v, oz) :: L) := Own.sub o' ⟨its outs (([.ref ad] : List V).map some), List.perm_middle.symm⟩
            have r1' : Rp K S' (.ref ad) (.ins c fs) := RpI.mono e' (.ins a1 a2 a3 .nil)
            exact (o2.push r1').perm (.swap _ _ _)
        · cases e
      · cases e
    · cases e
  · cases e
theorem se_m0 {pl : Sem Bool} (C : Cls X.K (He.ga X.K cn)) (c : CalM X.prog X.w X.K X.mg X.base cn m k [q0] mi) (gd : X.A.guards = some []) (hr : Room k X.A) (ha : SO X pin o ta oa)
    (ht : eval (.Call (.Attribute o m apos) [] [] pos) X.env = (do
      let ov ← eval o X.env
      standAt apos.atName
      let (fx, fst) ← holding [ov] (getMethod ov m pl)
      callWith pos fx fst (backTo pos (starEach [] X.env)) (backToKw pos (keywordEach [] X.env))) := by rfl) (hK : X.K = K := by rfl) : SE X pin (.Call (.Attribute o m apos) [] [] pos) (tUn (rMeth0 K cn m (spM K 1 mi)) ta) (fUn (gMeth0 cn m mi) oa) := by
  subst hK
  exact ⟨pe_m0 (pl := pl) ha.pe C c gd hr ht, re_un ha.rd rg_meth0⟩
def tM1 (K : PySem.W.Frag) (cn m : Str) (sp : Sp) (ta tb : TE) : TE := fun σ H Q => ta σ H fun x H1 => ∃ a dx fs, x = .ref a ∧ H1 a = some (.ins (He.ga K cn) dx fs) ∧ fs.lookup m = none ∧ tb σ H1 fun y H2 => sp [x, y] H2 Q E0
theorem pe_m1 {pl : Sem Bool} (he : PE X o ta) (hb0 : PE X b tb) (C : Cls X.K (He.ga X.K cn)) (c : CalM X.prog X.w X.K X.mg X.base cn m k ps mi) (gd : X.A.guards = some []) (hr : Room k X.A)
    (hst : starEach [b] X.env = (false, eval b X.env) :: starEach [] X.env := by rfl)
    (ht : eval (.Call (.Attribute o m apos) [b] [] pos) X.env = (do
      let ov ← eval o X.env
      standAt apos.atName
      let (fx, fst) ← holding [ov] (getMethod ov m pl)
      callWith pos fx fst (backTo pos (starEach [b] X.env)) (backToKw pos (keywordEach [] X.env))) := by rfl) : PE X (.Call (.Attribute o m apos) [b] [] pos) (tM1 X.K cn m (spM X.K ps.length mi) ta tb) := by
  obtain ⟨f, fd, h1, h2, h3, h4, h5⟩ := c.ex
  refine ⟨fun pins s σ H Q I h => PySem.W.methodCall_KW (pl := pl) (thn (he.run pins s σ H _ I h) fun u s1 ⟨x, H1, I1, rx, a, dx, fs, ex, ea, l, q⟩ => ?_) ht⟩
  subst ex
  obtain rfl : u = Value.ref a := rx
  have hA : PA X [b] (tCons tb tNil) := pa_cons hb0 pa_nil hst
  refine getmeth_ok I1 ea C ⟨h1, h2, h3⟩ l ?_
  refine PySem.W.callWith_K (first := [.ref a]) (h₀ := X.base) I.ok.mod.kin h3 (thn (hA.run pos pins s1 σ H1 (fun vs H2 => spM X.K ps.length mi (.ref a :: vs) H2 Q E0) I1 q) fun us s2 ⟨vs, H2, I2, r, q2⟩ => ⟨I2.kIn, ?_⟩) hst rfl
  have hl : (Value.ref a :: us).length = ps.length := by
    have h6 := h5.len _ _ _ _ q2
    have h7 := r.length
    simp only [List.length_cons] at h6 ⊢
    omega
  have hb := h4 s2 (Value.ref a :: us) I2.kIn (by simpa using hl)
  rw [List.append_nil] at hb
  exact wp_g (run_g (us := .ref a :: us) (vs := .ref a :: vs) h5 gd hr pass0 I2 hb (.cons rfl r) q2)
def gMeth1 (cn m : Str) (mi : Mir) : OD → OD → Option OD
  | .st (.ins c fs), .st d => if c = cn ∧ (fs.lookup m).isNone = true then (match mi [.st (.ins c fs), .st d] with
    | some (r, outs) => if outs.length = 2 then some r else none
    | _ => none) else none
  | _, _ => none
theorem re_m1 (ha : RO K pin ta oa) (hb : RO K pin tb ob) : RE K pin (tM1 K cn m (spM K 2 mi) ta tb) (fBin (gMeth1 cn m mi) oa ob) := by
  intro S H T ρ σ F Q od ρ' w e k
  unfold fBin at e
  split at e
  · rename_i xa ρ1 q1
    split at e
    · rename_i xb ρ2 q2
      split at e
      · rename_i oz q3
        cases e
        unfold gMeth1 at q3
        split at q3
        · rename_i c fs d
          split at q3
          · rename_i hc
            obtain ⟨rfl, hn⟩ := hc
            split at q3
            · rename_i r outs hm
              split at q3
              · rename_i hl
                cases q3
                refine ha S H T ρ σ F _ _ ρ1 w q1 fun x S1 H1 e1 w1 rs1 => ?_
                cases (show Rp K S1 x (.ins c fs) from w1.known) with
                | @ins ad _ dx vs _ _ a1 a2 a3 _ =>
                  refine ⟨ad, dx, vs, rfl, w1.le _ _ a1, lookup_no a2 (by simpa using hn), ?_⟩
                  refine hb S1 H1 _ ρ1 σ F _ _ ρ2 w1 q2 fun y S2 H2 e2 w2 rs2 => ?_
                  have ry : Rp K S2 y d := w2.known
                  refine ⟨S2, T ++ (its ρ2 σ ++ F), [.st (.ins c fs), .st d], _, outs, rfl, rfl, hl, w2.own.perm (.swap _ _ _), hm, fun v S3 H3 e3 o3 => ?_⟩
                  have o4 : Own K S3 H3 [] ((v, od) :: (T ++ (its ρ2 σ ++ F))) := Own.sub o3 ⟨its outs (([.ref ad, y] : List V).map some), List.perm_middle.symm⟩
                  have r1' : Rp K S3 (.ref ad) (.ins c fs) := RpI.mono (ex_trans e2 e3) (.ins a1 a2 a3 .nil)
                  have o5 := (o4.push r1').push (RpI.mono e3 ry)
                  have z : Sat K pin S3 H3 ((y, .st d) :: (.ref ad, .st (.ins c fs)) :: (v, od) :: T) ρ2 σ F := w2.with o5
                  exact k v S3 H3 (ex_trans e1 (ex_trans e2 e3)) (rs1 _ _ _ _ _ (rs2 _ _ _ _ _ z))
              · cases q3
            · cases q3
          · cases q3
        · cases q3
      · cases e
    · cases e
  · cases e
theorem se_m1 {q0 q1 : Str} {pl : Sem Bool} (C : Cls X.K (He.ga X.K cn)) (c : CalM X.prog X.w X.K X.mg X.base cn m k [q0, q1] mi) (gd : X.A.guards = some []) (hr : Room k X.A) (ha : SO X pin o ta oa) (hb : SO X pin b tb ob)
    (hst : starEach [b] X.env = (false, eval b X.env) :: starEach [] X.env := by rfl)
    (ht : eval (.Call (.Attribute o m apos) [b] [] pos) X.env = (do
      let ov ← eval o X.env
      standAt apos.atName
      let (fx, fst) ← holding [ov] (getMethod ov m pl)
      callWith pos fx fst (backTo pos (starEach [b] X.env)) (backToKw pos (keywordEach [] X.env))) := by rfl) (hK : X.K = K := by rfl) : SE X pin (.Call (.Attribute o m apos) [b] [] pos) (tM1 K cn m (spM K 2 mi) ta tb) (fBin (gMeth1 cn m mi) oa ob) := by
  subst hK
  exact ⟨pe_m1 (pl := pl) ha.pe hb.pe C c gd hr hst ht, re_m1 ha.rd hb.rd⟩
theorem se_lenO {q0 : Str} (c : CalM X.prog X.w X.K X.mg X.base cn "__len__" k [q0] mi) (gd : X.A.guards = some []) (hr : Room (k + 1) X.A) (hm : X.mg "len" = none) (ha : SO X pin a ta oa) (hg : Gl X "len" := by rfl)
    (hs : starEach [a] X.env = (false, eval a X.env) :: starEach [] X.env := by rfl) (hK : X.K = K := by rfl) : SE X pin (.Call (.Name "len" p) [a] [] pos) (tCB (rLenOwn K cn (spM K 1 mi)) (tCons ta tNil)) (fUn (gLenOwn cn mi) oa) := by
  subst hK
  exact se_b1 (r := rLenOwn X.K cn (spM X.K 1 mi)) (call_lenOwn c gd hr) rg_lenOwn hm PySem.boot_len ha hg (by decide) (by decide) hs
theorem se_fldK {fl : Str} (hc : Cls K (He.ga K cn)) (hn : NoAttr K (He.ga K cn) fl) (ha : SO X pin a ta oa) (hK : X.K = K := by rfl) (hb : attributeBase a fl X.env (eval a X.env) = eval a X.env := by rfl) : SE X pin (.Attribute a fl pos) (tFld K ta fl) (fUn (gFld cn fl) oa) := by
  subst hK
  exact se_fld hc hn ha hb
/-! ### a list of so many is taken apart -/
def gTL (n : Nat) (r : List OD → Rho → Option Rho) : Fg := fun o ρ => match o with
  | .st (.lst ds) => if ds.length = n then r (ds.map .st) ρ else none
  | _ => none
theorem rgt_lst {n : Nat} {gs : TGs} {fr : List OD → Rho → Option Rho} {sl : List Nat} (h : RGs K pin sl gs fr) : RG K pin sl (gLst K n gs) (gTL n fr) := by
  intro S H T ρ σ F v o Q ρ' w e k
  unfold gTL at e
  split at e
  · rename_i ds
    split at e
    · rename_i hn
      cases w.known with
      | lst a b c _ =>
        exact ⟨_, _, rfl, SqL.of (w.le _ _ a), b.trans hn, h S H T ρ σ F _ _ Q ρ' (by simpa using b) (sat_pushes w.tl c) e k⟩
    · cases e
  · cases e
theorem sg_lst {es : List Expr} {k : Nat} {t : TGs} {n : Nat} {fr : List OD → Rho → Option Rho} {sl : List Nat} (hc : X.calm = true) (h : SGs X pin sl es t fr) (hn : (assignEach es X.env).length = n := by rfl) (hst : (assignEach es X.env).findIdx? (·.1) = none := by rfl) (hK : X.K = K := by rfl) : SG X pin sl (.Tuple es k pos) (gLst K n t) (gTL n fr) := by
  subst hK; exact ⟨pg_lst hc h.pe hn hst, rgt_lst h.rd⟩
end
end Qy
set_option Elab.async false
set_option linter.all false
set_option maxRecDepth 100000
namespace Qy
open PySem PySem.Spec PyProof.Rows L2 ClX
section
variable {X : Cx} {pin : List (Option V)} {K : PySem.W.Frag} {b : Expr} {tb : TE} {fj : Fe} {pos p : Pos}
/-- x[e] where e speaks of x too: x is looked at when e is known -/
def fIxV (i : Nat) (f : Fe) : Fe := fun ρ => match ρ[i]? with
  | some (some _) => (match f ρ with
    | some (oj, ρ1) => (match fPeek i ρ1 with
      | some (oa, ρ2) => (match gIx oa oj with
        | some oz => some (oz, (fP i).2 oa ρ2)
        | none => none)
      | none => none)
    | none => none)
  | _ => none
theorem re_ixV {i : Nat} (hb : RE K pin tb fj) : RE K pin (tOp (rIx K) (tVar i) tb) (fIxV i fj) := by
  intro S H T ρ σ F Q od ρ' w e k
  unfold fIxV at e
  split at e
  · rename_i o0 h0
    obtain ⟨v, hv, _⟩ := w.take h0
    split at e
    · rename_i oj ρ1 q1
      split at e
      · rename_i oa ρ2 q2
        split at e
        · rename_i oz q3
          cases e
          refine ⟨v, hv, hb S H T ρ σ F _ oj ρ1 w q1 fun y S2 H2 e2 w2 => ?_⟩
          have main : tVar i σ H2 (fun x H3 => rIx K x y H3 Q) := ro_var i S2 H2 _ ρ1 σ F _ oa ρ2 w2 q2 fun x S3 H3 e3 w3 rs3 => by
            refine rg_ix S3 H3 (T ++ (its ρ2 σ ++ F)) x y oa oj od Q (w3.own.perm (.swap _ _ _)) q3 fun v' S4 H4 e4 o4 => ?_
            have o5 : Own K S4 H4 [] ((x, oa) :: (v', od) :: (T ++ (its ρ2 σ ++ F))) := Own.sub o4 ⟨[(y, oj)], (List.Perm.swap _ _ _).trans (.cons _ (.swap _ _ _))⟩
            have z : Sat K pin S4 H4 ((x, oa) :: (v', od) :: T) ρ2 σ F := w3.with o5
            exact k v' S4 H4 (ex_trans e2 (ex_trans e3 e4)) (rs3 _ _ _ _ _ z)
          obtain ⟨v2, hv2, q⟩ := main
          rw [hv] at hv2
          cases hv2
          exact q
        · cases e
      · cases e
    · cases e
  · cases e
theorem se_ixV (i : Nat) {x : Str} (hb : SE X pin b tb fj) (hN : X.N[i]? = some x := by rfl) (hv : Vis X.env.scope x := by first | exact Or.inl rfl | exact Or.inr (Or.inl rfl) | exact Or.inr (Or.inr rfl)) (hd : (x == ("__debug__" : Str)) = false := by decide)
    (hcd : (x == ("__classdict__" : Str)) = false := by decide) (hs : PlainIx b := by exact fun _ _ => rfl) (hK : X.K = K := by rfl) : SE X pin (.Subscript (.Name x p) b pos) (tOp (rIx K) (tVar i) tb) (fIxV i fj) := by
  subst hK
  exact ⟨pe_ix ix_seq (pe_var hN hv hd hcd) hb.pe hs, re_ixV hb.rd⟩
end
end Qy
set_option Elab.async false
set_option linter.all false
set_option maxRecDepth 100000
namespace Qy
open PySem PySem.Spec PyProof.Rows L2 ClX
section
variable {X : Cx} {pin : List (Option V)} {K : PySem.W.Frag}
/-! ### is None, is not None -/
def nonD : D → Option Bool
  | .non => some true
  | .raw _ => none
  | .kt _ => none
  | .scr _ => none
  | _ => some false
def gIsN (neg : Bool) : OD → OD → Option OD := fun a b => match b, a.rd.bind nonD with
  | .st .non, some t => some (.st (.bl (t != neg)))
  | _, _ => none
theorem At.non {S H : Hp} {x : V} {o : OD} {d : D} {t : Bool} (h : At K S H x o) (le : Ex S H) (r : o.rd = some d) (hn : nonD d = some t) : decide (x = .non) = t := by
  cases d with
  | lst ds => cases hn; obtain ⟨a, vs, rfl, _⟩ := h.lst le r; simp
  | tup ds => cases hn; obtain ⟨a, vs, rfl, _⟩ := h.tup le r; simp
  | dK ds => cases hn; obtain ⟨a, vs, rfl, _⟩ := h.dK le r; simp
  | dT ds => cases hn; obtain ⟨a, vs, rfl, _⟩ := h.dT le r; simp
  | non => cases hn; cases h.plain r (by simp) (by simp) (by simp); simp
  | bl b => cases hn; cases h.plain r (by simp) (by simp) (by simp); simp
  | int i => cases hn; cases h.plain r (by simp) (by simp) (by simp); simp
  | str z => cases hn; cases h.plain r (by simp) (by simp) (by simp); simp
  | ins _ _ => cases hn; cases h.plain r (by simp) (by simp) (by simp); simp
  | raw _ => cases hn
  | scr _ => cases hn
  | kt _ => cases hn
def rNotNQ : R2 := fun x y H Q => y = .non ∧ Q (.bl (!decide (x = .non))) H
theorem rg_notN : RG2 K rNotNQ (gIsN true) := by
  intro S H L x y ox oy oz Q w e k
  unfold gIsN at e
  split at e
  · rename_i t ht
    cases e
    obtain ⟨d, hd, hn⟩ := Option.bind_eq_some_iff.mp ht
    have hx := w.at1.non w.le hd hn
    cases w.at0.st
    refine ⟨rfl, ?_⟩
    rw [hx]
    have : (t != true) = !t := by cases t <;> rfl
    rw [← this]
    exact k _ S H (ex_refl S) (w.push (.bl .nil))
  · cases e
def rIsNQ : R2 := fun x y H Q => y = .non ∧ Q (.bl (decide (x = .non))) H
theorem rg_isN : RG2 K rIsNQ (gIsN false) := by
  intro S H L x y ox oy oz Q w e k
  unfold gIsN at e
  split at e
  · rename_i t ht
    cases e
    obtain ⟨d, hd, hn⟩ := Option.bind_eq_some_iff.mp ht
    have hx := w.at1.non w.le hd hn
    cases w.at0.st
    refine ⟨rfl, ?_⟩
    rw [hx]
    have : (t != false) = t := by cases t <;> rfl
    rw [← this]
    exact k _ S H (ex_refl S) (w.push (.bl .nil))
  · cases e
theorem op_isNQ : OpR X (compareOp .Is) rIsNQ := op_isN
theorem op_notNQ : OpR X (compareOp .IsNot) rNotNQ := op_notN
/-! ### is True, is not True, of bools -/
def gIsB (neg : Bool) : OD → OD → Option OD
  | .st (.bl a), .st (.bl b) => some (.st (.bl (decide (a = b) != neg)))
  | _, _ => none
def rIsBQ (neg : Bool) : R2 := fun x y H Q => ∃ a b : Bool, x = .bl a ∧ y = .bl b ∧ Q (.bl (decide (a = b) != neg)) H
theorem rg_isB {neg : Bool} : RG2 K (rIsBQ neg) (gIsB neg) := by
  intro S H L x y ox oy oz Q w e k
  unfold gIsB at e
  split at e
  · rename_i a b
    cases e
    have r1 := w.at1.st
    have r2 := w.at0.st
    cases r1
    cases r2
    exact ⟨a, b, rfl, rfl, k _ S H (ex_refl S) (w.push (.bl .nil))⟩
  · cases e
theorem op_notBQ : OpR X (compareOp .IsNot) (rIsBQ true) := by
  intro pins s σ H x y v u Q I rx ry h
  obtain ⟨a, b, h1, h2, q⟩ := h
  refine op_notBl pins s σ H x y v u Q I rx ry ⟨a, b, h1, h2, ?_⟩
  have : (decide (a = b) != true) = !decide (a = b) := by cases a <;> cases b <;> rfl
  rw [← this]
  exact q
/-! ### d.get(k) -/
def fGet1 (a : Fo) (fk : Fe) : Fe := fun ρ => match a.1 ρ with
  | some (od, ρ1) => (match fk ρ1 with
    | some (.st dk, ρ2) => (match od.rd, keyD dk with
      | some (.dK ds), some k => some (.st ((valA ds k).getD .non), a.2 od ρ2)
      | _, _ => none)
    | _ => none)
  | none => none
theorem re_get1 {ta tb : TE} {oa : Fo} {fk : Fe} (ha : RO K pin ta oa) (hk : RE K pin tb fk) : RE K pin (tDGet1 ta tb) (fGet1 oa fk) := by
  intro S H T ρ σ F Q od ρ' w q k
  unfold fGet1 at q
  split at q
  · rename_i o1 ρ1 q1
    split at q
    · rename_i dk ρ2 q2
      split at q
      · rename_i ds kk hd hkey
        cases q
        refine ha S H T ρ σ F _ o1 ρ1 w q1 fun x S1 H1 e1 w1 rs => ?_
        obtain ⟨ad, ks, rfl, hA, r⟩ := w1.own.at0.dKr w1.le hd
        refine ⟨ad, rfl, .inl ⟨ks, .inl hA⟩, hk S1 H1 _ ρ1 σ F _ _ ρ2 w1 q2 fun y S2 H2 e2 w2 => ?_⟩
        have hy := keyD_rp w2.known hkey
        subst hy
        have o3 : Own K S2 H2 [] ((kV kk, .st dk) :: (.ref ad, o1) :: (T ++ (its ρ2 σ ++ F))) := w2.own
        obtain ⟨ad', ks', he, hA', r'⟩ := (o3.at_ (x := .ref ad) (o := o1) (by simp)).dKr w2.le hd
        cases he
        refine ⟨_, DGet.k hA', ?_⟩
        rcases r'.val kk with ⟨z1, z2⟩ | ⟨v, d2, h1, h2, h3⟩
        · rw [z1]
          rw [z2] at k
          have w4 : Sat K pin S2 H2 ((.ref ad, o1) :: (.non, .st .non) :: T) ρ2 σ F := w2.with (by
            refine Own.sub (o3.push (show Rp K S2 .non .non from .non .nil)) ⟨[(kV kk, .st dk)], ?_⟩
            exact (List.Perm.swap _ _ _).trans (.cons _ (.swap _ _ _)))
          exact k .non S2 H2 (ex_trans e1 e2) (rs _ _ _ _ _ w4)
        · rw [h1]
          rw [h2] at k
          have w4 : Sat K pin S2 H2 ((.ref ad, o1) :: (v, .st d2) :: T) ρ2 σ F := w2.with (by
            refine Own.sub (o3.push h3) ⟨[(kV kk, .st dk)], ?_⟩
            exact (List.Perm.swap _ _ _).trans (.cons _ (.swap _ _ _)))
          exact k v S2 H2 (ex_trans e1 e2) (rs _ _ _ _ _ w4)
      · cases q
    · cases q
  · cases q
theorem se_get1 {a b : Expr} {ta tb : TE} {oa : Fo} {fk : Fe} {apos pos : Pos} (hu : X.A.units + 1 < cLine) (ha : SO X pin a ta oa) (hk : SE X pin b tb fk)
    (h1 : attributeBase a "get" X.env (eval a X.env) = eval a X.env := by rfl)
    (h2 : ((backTo pos (starEach [b] X.env)).all (fun x => !x.1) && (backToKw pos (keywordEach [] X.env)).all (fun x => x.1.isSome)
      && decide (([b] : List Expr).length + ([] : List Keyword).length + (if ([] : List Keyword).isEmpty then 0 else 1) < 30)) = true := by rfl)
    (h3 : (apos.endLine == pos.line) = true := by rfl) (h4 : backTo pos (starEach [b] X.env) = [(false, eval b X.env)] := by rfl) : SE X pin (.Call (.Attribute a "get" apos) [b] [] pos) (tDGet1 ta tb) (fGet1 oa fk) :=
  ⟨pe_dget1 hu ha.pe hk.pe ⟨h1, h2, h3, h4⟩, re_get1 ha.rd hk.rd⟩
end
end Qy
set_option Elab.async false
set_option linter.all false
set_option maxRecDepth 100000
set_option maxHeartbeats 400000
namespace Qy
open PySem PySem.Spec PyProof.Rows L2 ClX
section
variable {X : Cx} {pin : List (Option V)} {K : PySem.W.Frag} {S S' H : Hp} {e a b c : Expr} {t ta tb tc tj : TE} {f fj : Fe} {oa ob : Fo} {pos p apos : Pos} {L T F : List It} {ρ ρ2 : Rho} {σ : L2.St}
/-! ### a dict opened: its cell, its items -/
theorem Own.toCellK {q : Addr} {kvs : List (Key × OD)} (h : Own K S H [] ((.ref q, .oK kvs) :: L)) : ∃ ks, H q = some (.dK ks) ∧ ks.map (·.1) = kvs.map (·.1) ∧ Own K S H [] ((.ref q, .cell q (.dK ks)) :: ((ks.map (·.2)).zip (kvs.map (·.2)) ++ L)) := by
  obtain ⟨le, fp, w, nd, sn, x⟩ := h
  cases w with
  | oK a l c tl => exact ⟨_, a, l, le, _, .cell a (c.append tl), nd, sn, x⟩
theorem Own.ofCellK {q : Addr} {ks : List (Key × V)} {kvs : List (Key × OD)} (h : Own K S H [] ((.ref q, .cell q (.dK ks)) :: ((ks.map (·.2)).zip (kvs.map (·.2)) ++ L))) (hl : ks.map (·.1) = kvs.map (·.1)) : Own K S H [] ((.ref q, .oK kvs) :: L) := by
  obtain ⟨le, fp, w, nd, sn, x⟩ := h
  cases w with
  | cell a tl =>
    obtain ⟨f, g, rfl, h1, h2⟩ := tl.split
    exact ⟨le, _, .oK a hl h1 h2, nd, sn, x⟩
/-- a cell's object is changed -/
theorem Own.cellTo {q : Addr} {o o' : HO} (h : Own K S H [] ((.ref q, .cell q o) :: L)) : Own K S (upd H q o') [] ((.ref q, .cell q o') :: L) := by
  obtain ⟨le, fp, w, nd, sn, x⟩ := h
  cases w with
  | cell a tl =>
    have nd' := List.nodup_cons.mp nd
    exact ⟨ex_upd le (sn q List.mem_cons_self), _, .cell upd_same (tl.mono (ex_refl S) fun b hb => upd_ne fun z => nd'.1 (z ▸ hb)), nd, sn, x⟩
def keyIx (k : Key) : List Key → Option Nat
  | [] => none
  | a :: r => if a = k then some 0 else (keyIx k r).map (· + 1)
theorem keyIx_some {k : Key} : ∀ {ks : List (Key × V)} {j : Nat}, keyIx k (ks.map (·.1)) = some j → ∃ v, ks[j]? = some (k, v) ∧ valV ks k = some v
  | [], j, h => by cases h
  | (a, v) :: r, j, h => by
    simp only [List.map_cons, keyIx] at h
    by_cases e : a = k
    · rw [if_pos e] at h
      cases h
      exact ⟨v, by simp [e], valV_pos e⟩
    · rw [if_neg e] at h
      obtain ⟨j', h1, rfl⟩ := Option.map_eq_some_iff.mp h
      obtain ⟨v', h2, h3⟩ := keyIx_some h1
      exact ⟨v', by simpa using h2, by rw [valV_neg e]; exact h3⟩
theorem keyIx_none {k : Key} : ∀ {ks : List (Key × V)}, keyIx k (ks.map (·.1)) = none → valV ks k = none ∧ (ks.any fun kv => decide (kv.1 = k)) = false
  | [], h => ⟨rfl, rfl⟩
  | (a, v) :: r, h => by
    simp only [List.map_cons, keyIx] at h
    by_cases e : a = k
    · rw [if_pos e] at h; cases h
    · rw [if_neg e] at h
      have h1 := keyIx_none (Option.map_eq_none_iff.mp h)
      exact ⟨by rw [valV_neg e]; exact h1.1, by simp [e]; simpa using h1.2⟩
/-! ### x.setdefault(k, []).append(e) -/
def sdK (kvs : List (Key × OD)) (k : Key) : List (Key × OD) × Nat := match keyIx k (kvs.map (·.1)) with
  | some j => (kvs, j)
  | none => (kvs ++ [(k, .ol [])], kvs.length)
def fSdApp (i : Nat) (fk f : Fe) : Fe := fun ρ => match ρ[i]? with
  | some (some (.oK kvs)) => (match fk (ρ.set i none) with
    | some (.st dk, ρ1) => (match keyD dk with
      | some k => (match (sdK kvs k).1[(sdK kvs k).2]? with
        | some (_, .ol us) => (match f ρ1 with
          | some (o, ρ2) => if kvs.length ≤ big ∧ us.length ≤ big then some (.st .non, ρ2.set i (some (.oK ((sdK kvs k).1.set (sdK kvs k).2 (k, .ol (us ++ [o])))))) else none
          | none => none)
        | _ => none)
      | none => none)
    | _ => none)
  | _ => none
theorem perm_swap3 {x y z : It} {L : List It} : (x :: y :: z :: L).Perm (z :: x :: y :: L) := (List.Perm.cons _ (.swap _ _ _)).trans (.swap _ _ _)
theorem shutK {q : Addr} {ks : List (Key × V)} {kvs : List (Key × OD)} {j : Nat} {k : Key} {v : V} {o : OD} (hk : ks.map (·.1) = kvs.map (·.1)) (hv : ks[j]? = some (k, v)) (h : Own K S H [] ((v, o) :: (.ref q, .cell q (.dK ks)) :: (zRest (ks.map (·.2)) (kvs.map (·.2)) j ++ L))) : Own K S H [] ((.ref q, .oK (kvs.set j (k, o))) :: L) := by
  have hl : ks.length = kvs.length := by simpa using congrArg List.length hk
  have hj : j < kvs.length := by rw [← hl]; exact (List.getElem?_eq_some_iff.mp hv).1
  refine Own.ofCellK (ks := ks) (h.perm ?_) ?_
  · refine .trans (.swap _ _ _) (.cons _ ?_)
    rw [List.map_set]
    refine .trans ?_ ((zip_set2 (os := kvs.map (·.2)) (o := o) (j := j) (v := v) (by simp [hv]) (by simpa using hj)).symm.append_right _)
    exact .of_eq (by simp)
  · rw [List.map_set, hk]
    refine (List.set_getElem_self (as := kvs.map (·.1)) (i := j) (by simpa using hj)).symm.trans ?_
    congr 1
    have h1 : (ks.map (·.1))[j]? = some k := by simp [hv]
    rw [hk] at h1
    exact (List.getElem?_eq_some_iff.mp h1).2
theorem re_sdApp {i : Nat} {tk : TE} {fk : Fe} (hk : RE K pin tk fk) (h : RE K pin t f) : RE K pin (tBM K "list" rAppend (tDSetd (tVar i) tk (tLst tNil)) (tCons t tNil)) (fSdApp i fk f) := by
  intro S H T ρ σ F Q od ρ' w e kont
  unfold fSdApp at e
  split at e
  · rename_i kvs h0
    split at e
    · rename_i dk ρ1 q1
      split at e
      · rename_i k hkey
        split at e
        · rename_i k0 us hsd
          split at e
          · rename_i o ρ2 q2
            split at e
            · rename_i hb
              cases e
              obtain ⟨q, hv, ⟨ks0, hq0⟩, w1⟩ := sat_dict w h0
              obtain ⟨ks, hq, hks, o2⟩ := w1.own.toCellK
              have w2 : Sat K pin S H ((.ref q, .cell q (.dK ks)) :: ((ks.map (·.2)).zip (kvs.map (·.2)) ++ T)) (ρ.set i none) σ F := w1.with (o2.perm (.of_eq (by simp)))
              have hlen : ks.length = kvs.length := by simpa using congrArg List.length hks
              refine ⟨.ref q, hv, q, rfl, .inl ⟨ks, .inl hq⟩, hk S H _ _ σ F _ _ ρ1 w2 q1 fun y S1 H1 e1 w3 => ?_⟩
              have hy := keyD_rp w3.known hkey
              subst hy
              refine ⟨by simp, fun p hp => ?_⟩
              have w4 := w3.tl
              have hq1 : H1 q = some (.dK ks) := (Own.at_ (x := .ref q) (o := .cell q (.dK ks)) w4.own (by simp)).cell.2
              have hpq : q ≠ p := fun z => by rw [← z, hq1] at hp; cases hp
              have o5 : Own K S1 (upd H1 p (.lst [])) [] ((.ref p, .ol []) :: (.ref q, .cell q (.dK ks)) :: ((ks.map (·.2)).zip (kvs.map (·.2)) ++ (T ++ (its ρ1 σ ++ F)))) := by
                have := Own.newL (vs := []) (os := []) (L := (.ref q, .cell q (.dK ks)) :: ((ks.map (·.2)).zip (kvs.map (·.2)) ++ (T ++ (its ρ1 σ ++ F)))) (by simpa using w4.own) rfl hp
                exact this
              have hq2 : (upd H1 p (.lst [])) q = some (.dK ks) := by rw [upd_ne hpq]; exact hq1
              -- what is common: the list v with its place j
              have fin : ∀ (ks' : List (Key × V)) (kvs' : List (Key × OD)) (j : Nat) (v : V) (S2 H2 : Hp), Ex S1 S2 → ks'.map (·.1) = kvs'.map (·.1) → ks'[j]? = some (k, v) → kvs'[j]? = some (k0, .ol us) → sdK kvs k = (kvs', j) → Own K S2 H2 [] ((v, .ol us) :: (.ref q, .cell q (.dK ks')) :: (zRest (ks'.map (·.2)) (kvs'.map (·.2)) j ++ (T ++ (its ρ1 σ ++ F)))) → (v = v) → 
                  (((∃ b ws, v = .ref b ∧ SqL K H2 b ws) ∧ True) ∧ t σ H2 fun y3 H3 => rAppend v [y3] H3 Q) := by
                intro ks' kvs' j v S2 H2 e2 hk' hj1 hj2 hsd' o6 _
                obtain ⟨fp, z⟩ := (Own.at0 o6 : At K S2 H2 v (.ol us))
                have hvr : ∃ b ws, v = .ref b ∧ H2 b = some (.lst ws) := by
                  cases z with
                  | ol a _ _ _ => exact ⟨_, _, rfl, a⟩
                obtain ⟨b, ws, rfl, hb1⟩ := hvr
                refine ⟨⟨⟨b, ws, rfl, SqL.of hb1⟩, trivial⟩, ?_⟩
                have w6 : Sat K pin S2 H2 ((.ref b, .ol us) :: (.ref q, .cell q (.dK ks')) :: (zRest (ks'.map (·.2)) (kvs'.map (·.2)) j ++ T)) ρ1 σ F := w4.with (o6.perm (.of_eq (by simp)))
                refine h S2 H2 _ ρ1 σ F _ o ρ2 w6 q2 fun y3 S3 H3 e3 w7 => ?_
                have o7 : Own K S3 H3 [] ((y3, o) :: (.ref b, .ol us) :: (.ref q, .cell q (.dK ks')) :: (zRest (ks'.map (·.2)) (kvs'.map (·.2)) j ++ (T ++ (its ρ2 σ ++ F)))) := w7.own.perm (.of_eq (by simp))
                obtain ⟨ws', hp', hl', o8⟩ := o7.app
                refine ⟨b, ws', y3, rfl, rfl, hp', by rw [hl']; exact big_lt hb.2, kont _ S3 _ (ex_trans e1 (ex_trans e2 e3)) ?_⟩
                have o9 := shutK hk' hj1 o8
                have w9 : Sat K pin S3 (upd H3 b (.lst (ws' ++ [y3]))) ((.ref q, .oK (kvs'.set j (k, .ol (us ++ [o])))) :: T) ρ2 σ F := w7.with o9
                have w10 := w9.back hv
                rw [hsd']
                exact w10.push (.non .nil)
              refine ⟨ks, k, hq2, rfl, by rw [hlen]; exact big_lt hb.1, fun v hvv => ?_, fun hvn => ?_⟩
              · cases hix : keyIx k (ks.map (·.1)) with
                | none => rw [(keyIx_none hix).1] at hvv; cases hvv
                | some j =>
                  obtain ⟨v', hj1, hj2⟩ := keyIx_some hix
                  rw [hvv] at hj2
                  cases hj2
                  have hsd' : sdK kvs k = (kvs, j) := by unfold sdK; rw [← hks, hix]
                  rw [hsd'] at hsd
                  obtain ⟨⟨⟨b, ws, hbv, hsq⟩, _⟩, hh⟩ := fin ks kvs j v S1 _ (ex_refl S1) hks hj1 hsd hsd' (by
                    refine (o5.tl).perm ?_
                    refine .trans (.cons _ ((zip_pick (j := j) (v := v) (o := .ol us) (by simp [hj1]) (by simp [hsd])).append_right _)) ?_
                    simp only [List.cons_append]
                    exact .swap _ _ _) rfl
                  subst hbv
                  exact ⟨.inl ⟨rfl, ws, hsq⟩, hh⟩
              · cases hix : keyIx k (ks.map (·.1)) with
                | some j =>
                  obtain ⟨v', hj1, hj2⟩ := keyIx_some hix
                  rw [hvn] at hj2
                  cases hj2
                | none =>
                  have hsd' : sdK kvs k = (kvs ++ [(k, .ol [])], kvs.length) := by unfold sdK; rw [← hks, hix]
                  rw [hsd'] at hsd
                  have hus : us = [] := by simp at hsd; exact hsd.2
                  subst hus
                  have hput : putK ks k (.ref p) = ks ++ [(k, .ref p)] := by
                    unfold putK
                    rw [(keyIx_none hix).2]
                    simp
                  rw [hput]
                  obtain ⟨⟨⟨b, ws, hbv, hsq⟩, _⟩, hh⟩ := fin (ks ++ [(k, .ref p)]) (kvs ++ [(k, .ol [])]) kvs.length (.ref p) S1 (upd (upd H1 p (.lst [])) q (.dK (ks ++ [(k, .ref p)]))) (ex_refl S1) (by simp [hks]) (by rw [← hlen]; simp) hsd hsd' (by
                    have o6 := (o5.perm (.swap _ _ _)).cellTo (o' := .dK (ks ++ [(k, .ref p)]))
                    refine o6.perm (.trans (.swap _ _ _) (.cons _ (.cons _ (.append_right _ ?_))))
                    have e1 : zRest ((ks ++ [(k, V.ref p)]).map (·.2)) ((kvs ++ [(k, OD.ol [])]).map (·.2)) kvs.length = (ks.map (·.2)).zip (kvs.map (·.2)) := by
                      unfold zRest
                      have hz : ((ks ++ [(k, V.ref p)]).map (·.2)).zip ((kvs ++ [(k, OD.ol [])]).map (·.2)) = (ks.map (·.2)).zip (kvs.map (·.2)) ++ [(.ref p, .ol [])] := by
                        rw [List.map_append, List.map_append]
                        exact List.zip_append (by simp [hlen])
                      rw [hz]
                      have hzl : ((ks.map (·.2)).zip (kvs.map (·.2))).length = kvs.length := by simp [hlen]
                      rw [← hzl, List.take_left', List.drop_eq_nil_of_le] <;> simp
                    rw [e1]) rfl
                  cases hbv
                  exact ⟨.inl ⟨rfl, ws, hsq⟩, hh⟩
            · cases e
          · cases e
        · cases e
      · cases e
    · cases e
  · cases e
end
end Qy
set_option Elab.async false
set_option linter.all false
set_option maxRecDepth 100000
set_option maxHeartbeats 400000
namespace Qy
open PySem PySem.Spec PyProof.Rows L2 ClX
section
variable {X : Cx} {pin : List (Option V)} {K : PySem.W.Frag} {S S' H : Hp} {e a b c : Expr} {t ta tb tc tj : TE} {f fj : Fe} {oa ob : Fo} {pos p apos : Pos} {L T F : List It} {ρ ρ2 : Rho} {σ : L2.St}
theorem se_sdApp {i : Nat} {x : Str} {j : Expr} {p2 lp ip ap2 : Pos} {tk : TE} {fk : Fe} (hk : SE X pin j tk fk) (h : SE X pin e t f) (hN : X.N[i]? = some x := by rfl) (hv : Vis X.env.scope x := by first | exact Or.inl rfl | exact Or.inr (Or.inl rfl) | exact Or.inr (Or.inr rfl)) (hd : (x == ("__debug__" : Str)) = false := by decide) (hcd : (x == ("__classdict__" : Str)) = false := by decide)
    (g1 : attributeBase (.Name x p2) "setdefault" X.env (eval (.Name x p2) X.env) = eval (.Name x p2) X.env := by rfl)
    (g2 : ((backTo ip (starEach [j, .List [] lp] X.env)).all (fun x => !x.1) && (backToKw ip (keywordEach [] X.env)).all (fun x => x.1.isSome)
      && decide (([j, .List [] lp] : List Expr).length + ([] : List Keyword).length + (if ([] : List Keyword).isEmpty then 0 else 1) < 30)) = true := by rfl)
    (g3 : (ap2.endLine == ip.line) = true := by rfl) (g4 : backTo ip (starEach [j, .List [] lp] X.env) = [(false, eval j X.env), (false, eval (.List [] lp) X.env)] := by rfl)
    (hbase : attributeBase (.Call (.Attribute (.Name x p2) "setdefault" ap2) [j, .List [] lp] [] ip) "append" X.env (eval (.Call (.Attribute (.Name x p2) "setdefault" ap2) [j, .List [] lp] [] ip) X.env) = eval (.Call (.Attribute (.Name x p2) "setdefault" ap2) [j, .List [] lp] [] ip) X.env := by rfl)
    (hfew : ((backTo pos (starEach [e] X.env)).all (fun x => !x.1) && (backToKw pos (keywordEach [] X.env)).all (fun x => x.1.isSome) && decide (([e] : List Expr).length + ([] : List Keyword).length + (if ([] : List Keyword).isEmpty then 0 else 1) < 30)) = true := by rfl)
    (hline : (apos.endLine == pos.line) = true := by rfl) (hs : starEach [e] X.env = (false, eval e X.env) :: starEach [] X.env := by rfl) : SE X pin (.Call (.Attribute (.Call (.Attribute (.Name x p2) "setdefault" ap2) [j, .List [] lp] [] ip) "append" apos) [e] [] pos) (tBM X.K "list" rAppend (tDSetd (tVar i) tk (tLst tNil)) (tCons t tNil)) (fSdApp i fk f) :=
  ⟨pe_bm PySem.F.plainAttrs_list PySem.F.slot_list_append PySem.F.type_list_append mt_append (pe_dsetd (pe_var hN hv hd hcd) hk.pe (pe_lst pa_nil) ⟨g1, g2, g3, g4⟩) (pa_cons h.pe pa_nil hs) hbase hfew hline hs rfl, re_sdApp hk.rd h.rd⟩
/-! ### {k: v for .. in x.items()}, x a dict in a slot, which is given up -/
def kDd : Key → D
  | .inl i => .int i
  | .inr s => .str s
theorem kDd_rp (k : Key) : Rp K S (kV k) (kDd k) := by
  cases k with
  | inl i => exact .int .nil
  | inr s => exact .str .nil
def itemsD (ds : List (Key × D)) : List D := ds.map fun p => .tup [kDd p.1, p.2]
def fDcI (own : List Nat) (i : Nat) (tg : Fg) (tt : Ft) (fk fv : Fe) : Fe := fun ρ => match ρ[i]? with
  | some (some (.oK kvs)) => (match compD own tg tt fk fv (itemsD (valK kvs)) (wipeR (ρ.set i none) own) [] with
    | none => none
    | some (acc, ρ2) => some (.oK (stD acc), wipeR ρ2 own))
  | _ => none
theorem rpk_at : ∀ {ks : List (Key × V)} {ds : List (Key × D)}, RpK K S ks ds → ∀ {i : Nat} {k : Key} {v : V} {kd : Key × D}, ks[i]? = some (k, v) → ds[i]? = some kd → k = kd.1 ∧ Rp K S v kd.2
  | [], [], _, i, k, v, kd, h, _ => by simp at h
  | p :: ks, q :: ds, ⟨h1, h2, h3⟩, 0, k, v, kd, h, h' => by
    simp at h h'
    subst h
    subst h'
    exact ⟨h1, h2⟩
  | p :: ks, q :: ds, ⟨h1, h2, h3⟩, i + 1, k, v, kd, h, h' => rpk_at h3 (i := i) (by simpa using h) (by simpa using h')
theorem re_dcI {i : Nat} {g : TG} {fg : Fg} {sl own : List Nat} {tt : TT} {ft : Ft} {tk tv : TE} {fk fv : Fe} (hg : RG K pin sl g fg) (ht : RT K pin tt ft) (hk : RE K pin tk fk) (he : RE K pin tv fv) (hs : ∀ i ∈ sl, i ∈ own) (hp : ∀ i ∈ own, NoPin pin i) :
    RE K pin (tLockE (tDc (iItems (tVar i)) g tt tk tv own)) (fDcI own i fg ft fk fv) := by
  intro S H T ρ σ F Q od ρ' w e k
  unfold fDcI at e
  split at e
  · rename_i kvs h0
    split at e
    · cases e
    · rename_i acc ρ2 q2
      cases e
      obtain ⟨q, hv, _, w1⟩ := sat_dict w h0
      obtain ⟨ks, hq, hks, o2⟩ := w1.own.toCellK
      obtain ⟨S', x, rp, o3⟩ := Own.freeze (r := (ks.map (·.2)).zip (kvs.map (·.2))) (l := (.ref q, .cell q (.dK ks)) :: (T ++ (its (ρ.set i none) σ ++ F))) (o2.perm List.perm_middle.symm)
      rw [vals_zip] at rp
      have rk : RpK K S' ks (valK kvs) := rpk_iff.mpr ⟨by rw [hks, valK_map]; simp, by rw [valK_map]; rw [List.map_map] at rp ⊢; exact rp⟩
      have hlen : ks.length = (itemsD (valK kvs)).length := by rw [rk.len]; simp [itemsD]
      generalize hds : itemsD (valK kvs) = ds at q2 hlen
      refine ⟨q, .dK ks, hq, trivial, fun ob => ?_⟩
      have w' : Sat K pin S' (upd H q (.frz ob (.dK ks))) ([(.ref q, .cell q (.frz ob (.dK ks)))] ++ T) (ρ.set i none) σ F := w1.with (by simpa using o3.cellTo)
      refine ⟨.ref q, hv, q, ob, ks, rfl, upd_same, fun D hD => ?_⟩
      have W : Walk (Iti q ob ks) ds.length (fun H => H q = some (.frz ob (.dK ks))) (YPair (fun i => ks[i]?.map fun kv => kV kv.1) (fun i => ks[i]?.map Prod.snd)) := hlen ▸ walk_items
      have hG : ∀ S2 H2 L, Ex S' S2 → Own K S2 H2 [] L → (∀ x ∈ [((.ref q : V), OD.cell q (.frz ob (.dK ks)))], x ∈ L) → H2 q = some (.frz ob (.dK ks)) := fun S2 H2 L e2 o2 hm => (Own.at_ (x := .ref q) (o := .cell q (.frz ob (.dK ks))) o2 (hm _ (by simp))).cell.2
      have hY : ∀ i d H2 x H3 S2 L, ds[i]? = some d → Ex S' S2 → Own K S2 H2 [] L → YPair (fun i => ks[i]?.map fun kv => kV kv.1) (fun i => ks[i]?.map Prod.snd) i H2 x H3 → ∃ S3, Ex S2 S3 ∧ Own K S3 H3 [] ((x, .st d) :: L) := by
        intro i d H2 x H3 S2 L hd e2 o4 hy
        obtain ⟨T0, x0, y0, rfl, hT, rfl, hx0, hy0⟩ := hy
        dsimp only at hx0 hy0
        cases hki : ks[i]? with
        | none => rw [hki] at hx0; cases hx0
        | some kv =>
          obtain ⟨k0, v0⟩ := kv
          rw [hki] at hx0 hy0
          cases hx0
          cases hy0
          rw [← hds] at hd
          unfold itemsD at hd
          rw [List.getElem?_map] at hd
          obtain ⟨kd, hkd, rfl⟩ := Option.map_eq_some_iff.mp hd
          obtain ⟨hk0, hr0⟩ := rpk_at rk hki hkd
          subst hk0
          exact ⟨_, Own.newT o4 (.cons (kDd_rp kd.1) (.cons (hr0.mono e2) .nil)) rfl hT⟩
      have pin0 := w'.pin
      refine ⟨fun i m H => m = ds.length - i ∧ i ≤ ds.length ∧ ∃ S2 ρ3 ac, Ex S' S2 ∧ Sat K pin S2 H ((.ref D, .oK (stD ac)) :: ([(.ref q, .cell q (.frz ob (.dK ks)))] ++ T)) ρ3 (wipe σ own) F ∧ compD own fg ft fk fv (ds.drop i) ρ3 ac = some (acc, ρ2), ⟨ds.length, by simp, Nat.zero_le _, S', wipeR (ρ.set i none) own, [], ex_refl S', ?_, by simpa using q2⟩, ?_⟩
      · have w1 := w'.into (vs := own) hp
        exact w1.with (Own.newK (ks := []) (ds := []) w1.own trivial hD)
      · rintro i m H2 ⟨rfl, hi', S2, ρ3, ac, e2, w2, l2⟩
        have hGH : H2 q = some (.frz ob (.dK ks)) := hG S2 H2 _ e2 w2.own fun z hz => by
          simp only [List.cons_append, List.mem_cons, List.mem_append]
          exact .inr (.inl (by simpa using hz))
        by_cases hlt : i < ds.length
        · refine .inr ⟨W.goes i H2 hlt hGH, fun H3 => ∃ S3 ρ4 ac', Ex S' S3 ∧ Sat K pin S3 H3 ((.ref D, .oK (stD ac')) :: ([(.ref q, .cell q (.frz ob (.dK ks)))] ++ T)) ρ4 (wipe σ own) F ∧ compD own fg ft fk fv (ds.drop (i + 1)) ρ4 ac' = some (acc, ρ2), fun H' z => ⟨ds.length - (i + 1), by omega, rfl, hlt, z⟩, fun y H3 hy' => ?_⟩
          have hy := W.yields i H2 y H3 hlt hGH hy'
          obtain ⟨d, hd⟩ : ∃ d, ds[i]? = some d := ⟨ds[i], by simp [hlt]⟩
          have hdr : ds.drop i = d :: ds.drop (i + 1) := by
            rw [List.drop_eq_getElem_cons hlt]
            congr 1
            have := List.getElem?_eq_getElem hlt
            rw [this] at hd
            exact Option.some.inj hd
          rw [hdr] at l2
          obtain ⟨S3, e3, o3⟩ := hY i d H2 y H3 S2 _ hd e2 w2.own hy
          have w3 : Sat K pin S3 H3 ((y, .st d) :: (.ref D, .oK (stD ac)) :: ([(.ref q, .cell q (.frz ob (.dK ks)))] ++ T)) ρ3 (wipe σ own) F := w2.with o3
          unfold compD at l2
          split at l2
          · cases l2
          · rename_i ρ4 q4
            refine hg S3 H3 _ ρ3 (wipe σ own) F y (.st d) _ ρ4 w3 q4 fun S4 H4 σ4 e4 on w4 => ?_
            have hw := wipe_only on hs
            refine ⟨hw, ?_⟩
            have e04 : Ex S' S4 := ex_trans e2 (ex_trans e3 e4)
            split at l2
            · cases l2
            · rename_i ρ5 q5
              refine ht S4 H4 _ ρ4 σ4 F _ _ _ w4 q5 fun S5 H5 e5 w5 => ?_
              exact ⟨S5, wipeR ρ5 own, ac, ex_trans e04 e5, w5.outof hw hp, l2⟩
            · rename_i ρ5 q5
              refine ht S4 H4 _ ρ4 σ4 F _ _ _ w4 q5 fun S5 H5 e5 w5 => ?_
              show tk σ4 H5 _
              split at l2
              · rename_i dk ρ6 q6
                split at l2
                · rename_i dv ρ7 q7
                  split at l2
                  · rename_i kk hkey
                    split at l2
                    · rename_i hb
                      refine hk S5 H5 _ ρ5 σ4 F _ _ _ w5 q6 fun u S6 H6 e6 w6 => ?_
                      refine he S6 H6 _ ρ6 σ4 F _ _ _ w6 q7 fun v S7 H7 e7 w7 => ?_
                      have hu : u = kV kk := keyD_rp (w7.tl).known hkey
                      subst hu
                      have w8 : Sat K pin S7 H7 ((.ref D, .oK (stD ac)) :: ([(.ref q, .cell q (.frz ob (.dK ks)))] ++ T)) ρ7 σ4 F := w7.tl.tl
                      obtain ⟨ks', h1, h2, h3⟩ := Own.putKD (k := kk) w8.own w7.known
                      refine ⟨ks', kk, rfl, h1, by rw [h2]; exact big_lt hb, S7, wipeR ρ7 own, putA ac kk dv, ex_trans e04 (ex_trans e5 (ex_trans e6 e7)), ?_, l2⟩
                      exact (w8.with h3).outof hw hp
                    · cases l2
                  · cases l2
                · cases l2
              · cases l2
        · have hie : i = ds.length := by omega
          subst hie
          rw [List.drop_length] at l2
          cases l2
          refine .inl ⟨W.stops H2 hGH, ?_⟩
          have w3 : Sat K pin S2 H2 ((.ref D, .oK (stD acc)) :: ([(.ref q, .cell q (.frz ob (.dK ks)))] ++ T)) (wipeR ρ2 own) (wipe σ own) F := by
            have := w2.into (vs := own) hp
            have hh : wipe (wipe σ own) own = wipe σ own := wipe_only (sl := []) (Only.refl _) (fun _ z => nomatch z)
            rw [hh] at this
            exact this
          have w4 := w3.leave pin0
          refine ⟨hGH, ?_⟩
          have o5 : Own K S2 H2 [] ((.ref q, .cell q (.frz ob (.dK ks))) :: (.ref D, .oK (stD acc)) :: (T ++ (its (wipeR ρ2 own) σ ++ F))) := w4.own.perm (by simpa using List.Perm.swap _ _ _)
          have w5 : Sat K pin S2 (upd H2 q (.dK ks)) ((.ref D, .oK (stD acc)) :: T) (wipeR ρ2 own) σ F := w4.with (o5.cellTo (o' := .dK ks)).tl
          exact k _ S2 _ (ex_trans x e2) w5
  · cases e
theorem se_dcI {i : Nat} {x : Str} {kx vx : Expr} {elts : List Expr} {tk0 : Nat} {tpos p2 : Pos} {ifs : List Expr} {scope : Scope} {own : List (Str × Nat)} {g : TG} {fg : Fg} {sl : List Nat} {tt : TT} {ft : Ft} {tk tv : TE} {fk fv : Fe} (hc : X.calm = true) (hN : X.N.Nodup) (ok : BlkOk X.N X.env.scope scope own)
    (hp : ∀ i ∈ own.map (·.2), NoPin pin i) (hsl : ∀ i ∈ sl, i ∈ own.map (·.2))
    (hg : ∀ (s : Shared) (H : Hp) (C : Addr) (cl : List (Str × Addr)) (fp : List Addr), SG (X.blk s H scope (compEnvC scope cl C X.env) fp) pin sl (.Tuple elts tk0 tpos) g fg) (ht : ∀ (s : Shared) (H : Hp) (C : Addr) (cl : List (Str × Addr)) (fp : List Addr), STL (X.blk s H scope (compEnvC scope cl C X.env) fp) pin ifs tt ft)
    (hk : ∀ (s : Shared) (H : Hp) (C : Addr) (cl : List (Str × Addr)) (fp : List Addr), SE (X.blk s H scope (compEnvC scope cl C X.env) fp) pin kx tk fk) (he : ∀ (s : Shared) (H : Hp) (C : Addr) (cl : List (Str × Addr)) (fp : List Addr), SE (X.blk s H scope (compEnvC scope cl C X.env) fp) pin vx tv fv)
    (hNi : X.N[i]? = some x := by rfl) (hv : Vis X.env.scope x := by first | exact Or.inl rfl | exact Or.inr (Or.inl rfl) | exact Or.inr (Or.inr rfl)) (hd : (x == ("__debug__" : Str)) = false := by decide) (hcd : (x == ("__classdict__" : Str)) = false := by decide)
    (hbase : attributeBase (.Name x p2) "items" X.env (eval (.Name x p2) X.env) = eval (.Name x p2) X.env := by rfl) (hline : (apos.endLine == p.line) = true := by rfl)
    (hs : ∀ z, foldedSetIterable (.Call (.Attribute (.Name x p2) "items" apos) [] [] p) X.env z = pure z := by intro _; rfl) :
    SE X pin (.DictComp kx vx [⟨.Tuple elts tk0 tpos, .Call (.Attribute (.Name x p2) "items" apos) [] [] p, ifs, 0⟩] scope pos) (tLockE (tDc (iItems (tVar i)) g tt tk tv (own.map (·.2)))) (fDcI (own.map (·.2)) i fg ft fk fv) :=
  ⟨pe_lock (pe_dc hc hN (pi_items (pe_var hNi hv hd hcd) hbase hline) ok (fun s H C cl fp => (hg s H C cl fp).pe) (fun s H C cl fp => (ht s H C cl fp).pe) (fun s H C cl fp => (hk s H C cl fp).pe) (fun s H C cl fp => (he s H C cl fp).pe) hs),
   re_dcI (hg X.s_0 X.H_0 0 [] []).rd (ht X.s_0 X.H_0 0 [] []).rd (hk X.s_0 X.H_0 0 [] []).rd (he X.s_0 X.H_0 0 [] []).rd hsl hp⟩
end
end Qy
set_option Elab.async false
set_option linter.all false
set_option maxRecDepth 100000
set_option maxHeartbeats 400000
/-! an expression that only looks: its plain outcome is kept, the slots are as they were -/
namespace Qy
open PySem PySem.Spec PyProof.Rows L2 ClX
section
variable {X : Cx} {pin : List (Option V)} {K : PySem.W.Frag} {S S' H : Hp} {e : Expr} {t : TE} {f : Fe} {L T F : List It} {ρ ρ2 : Rho} {σ : L2.St}
def frzR (ρ : Rho) : Rho := ρ.map (Option.map fun o => .st o.val)
def plainD : D → Bool
  | .non => true
  | .bl _ => true
  | .int _ => true
  | .str _ => true
  | _ => false
def fRo (f : Fe) : Fe := fun ρ => match f (frzR ρ) with
  | some (.st d, _) => if plainD d = true then some (.st d, ρ) else none
  | _ => none
theorem plainD_rp {S S' : Hp} {v : V} {d : D} (h : plainD d = true) (r : Rp K S v d) : Rp K S' v d := by
  cases r with
  | non _ => exact .non .nil
  | bl _ => exact .bl .nil
  | int _ => exact .int .nil
  | str _ => exact .str .nil
  | raw _ => cases h
  | scr _ _ => cases h
  | lst _ _ _ _ => cases h
  | tup _ _ _ _ => cases h
  | kt _ _ _ _ => cases h
  | dK _ _ _ _ => cases h
  | dT _ _ _ _ => cases h
  | ins _ _ _ _ => cases h
theorem its_frz : ∀ (ρ : Rho) (σ : L2.St), its (frzR ρ) σ = (its ρ σ).map fun p => (p.1, .st p.2.val)
  | [], _ => by simp [frzR, its]
  | none :: ρ, [] => by simp [frzR, its]
  | some _ :: ρ, [] => by simp [frzR, its]
  | none :: ρ, b :: σ => by simpa [frzR, its] using its_frz ρ σ
  | some o :: ρ, none :: σ => by simpa [frzR, its] using its_frz ρ σ
  | some o :: ρ, some v :: σ => by
    have := its_frz ρ σ
    simp only [frzR] at this
    simp [frzR, its, this]
theorem owi_frz : ∀ {l : List It}, RpI K S (vals l) → OwI K S H (l.map fun p => (p.1, .st p.2.val)) []
  | [], _ => .nil
  | (v, o) :: r, h => by
    simp only [vals, List.map_cons] at h
    exact .st h.head (owi_frz h.tail)
def cellsOf (H : Hp) : List Addr → List It
  | [] => []
  | a :: r => match H a with
    | some o => (.ref a, .cell a o) :: cellsOf H r
    | none => cellsOf H r
theorem owi_cells : ∀ {l : List Addr}, (∀ a ∈ l, ∃ o, H a = some o) → OwI K S H (cellsOf H l) l
  | [], _ => .nil
  | a :: r, h => by
    obtain ⟨o, ho⟩ := h a List.mem_cons_self
    unfold cellsOf
    rw [ho]
    exact .cell ho (owi_cells fun b hb => h b (List.mem_cons_of_mem _ hb))
theorem mem_cells : ∀ {l : List Addr} {a : Addr} {o : HO}, a ∈ l → H a = some o → ((.ref a, .cell a o) : It) ∈ cellsOf H l
  | b :: r, a, o, hm, ho => by
    unfold cellsOf
    rcases List.mem_cons.mp hm with rfl | hm
    · rw [ho]; exact List.mem_cons_self
    · have := mem_cells hm ho
      split
      · exact List.mem_cons_of_mem _ this
      · exact this
theorem RE.ro (h : RE K pin t f) : RE K pin t (fRo f) := by
  intro S H T ρ σ F Q od ρ' w e k
  unfold fRo at e
  split at e
  · rename_i d ρ2 q
    split at e
    · rename_i hpl
      cases e
      obtain ⟨le, fp, ow, nd, sn, hx⟩ := id w.own
      obtain ⟨f1, g1, rfl, hT, hR⟩ := ow.split
      obtain ⟨f2, f3, rfl, hI, hF⟩ := hR.split
      obtain ⟨n1, n2, n3⟩ := List.nodup_append.mp nd
      obtain ⟨n4, n5, n6⟩ := List.nodup_append.mp n2
      -- the heap that is stable meanwhile
      have ex1 : Ex S (fun a => if a ∈ f2 then H a else S a) := fun a o z => by
        by_cases m : a ∈ f2
        · rw [sn a (List.mem_append_right _ (List.mem_append_left _ m))] at z; cases z
        · simp only [if_neg m]; exact z
      have ex2 : Ex (fun a => if a ∈ f2 then H a else S a) H := fun a o z => by
        by_cases m : a ∈ f2
        · simp only [if_pos m] at z; exact z
        · simp only [if_neg m] at z; exact le a o z
      have rp := hI.frozen ex1 (fun a ha => if_pos ha)
      have th : ∀ a ∈ f1 ++ f3, ∃ o, H a = some o := fun a ha => ow.there a (by
        rcases List.mem_append.mp ha with z | z
        · exact List.mem_append_left _ z
        · exact List.mem_append_right _ (List.mem_append_right _ z))
      have w1 : Sat K pin (fun a => if a ∈ f2 then H a else S a) H [] (frzR ρ) σ (cellsOf H (f1 ++ f3)) := by
        refine ⟨⟨ex2, f1 ++ f3, ?_, ?_, ?_, fun _ z => nomatch z⟩, fun i o hi => ?_, by simp [frzR]; exact w.len, w.pin⟩
        · rw [List.nil_append, its_frz]
          exact (owi_frz rp).append (owi_cells th)
        · rw [List.nodup_append]
          exact ⟨n1, n5, fun a ha b hb => n3 a ha b (List.mem_append_right _ hb)⟩
        · intro a ha
          have m : a ∉ f2 := fun z => by
            rcases List.mem_append.mp ha with y | y
            · exact n3 a y a (List.mem_append_left _ z) rfl
            · exact n6 a z a y rfl
          simp only [if_neg m]
          rcases List.mem_append.mp ha with y | y
          · exact sn a (List.mem_append_left _ y)
          · exact sn a (List.mem_append_right _ (List.mem_append_right _ y))
        · unfold frzR at hi
          rw [List.getElem?_map] at hi
          obtain ⟨o', h1, h2⟩ := Option.map_eq_some_iff.mp hi
          cases o' with
          | none => cases h2
          | some o'' => exact w.wf i o'' h1
      refine h _ H [] (frzR ρ) σ (cellsOf H (f1 ++ f3)) Q _ ρ2 w1 q fun v S' H' x w2 => ?_
      have le2 := w2.le
      have keep : ∀ a ∈ f1 ++ (f2 ++ f3), H' a = H a := fun a ha => by
        obtain ⟨o, ho⟩ := ow.there a ha
        rw [ho]
        by_cases m : a ∈ f2
        · exact le2 a o (x a o (by simp only [if_pos m]; exact ho))
        · have m2 : a ∈ f1 ++ f3 := by
            rcases List.mem_append.mp ha with z | z
            · exact List.mem_append_left _ z
            · rcases List.mem_append.mp z with z | z
              · exact absurd z m
              · exact List.mem_append_right _ z
          have := Own.at_ (x := .ref a) (o := .cell a o) w2.own (by
            simp only [List.cons_append, List.mem_cons, List.mem_append]
            exact .inr (.inr (.inr (mem_cells m2 ho))))
          exact this.cell.2
      have w3 : Sat K pin S H' T ρ σ F := w.with ⟨ex_trans ex1 (ex_trans x le2), _, ow.mono (ex_refl S) keep, nd, sn, hx⟩
      exact k v S H' (ex_refl S) (w3.push (plainD_rp hpl w2.known))
    · cases e
  · cases e
theorem SE.ro (h : SE X pin e t f) : SE X pin e t (fRo f) := ⟨h.pe, h.rd.ro⟩
end
end Qy
set_option Elab.async false
set_option linter.all false
set_option maxRecDepth 100000
set_option maxHeartbeats 400000
namespace Qy
open PySem PySem.Spec PyProof.Rows L2 ClX
/-! ### a triple read backwards -/
section
variable {prog : Program} {w : World} {A : Around} {E : Value → Shared → Prop} {s : Shared}
theorem adj3 : Builtin.Slice.sliceAdjust none none (-1) (3 : Int) = (2, -1) := by decide
theorem plc3 : Builtin.Slice.slicePlaces 2 (-1) (-1) = 3 := by decide
theorem applied3 {sl : Addr} {x y z : Value} {Q : Int × Int × Nat → Shared → Prop} (hs : s.heap.IsSliceOf sl x y z) (px : IsPart x none) (py : IsPart y none) (pz : IsPart z (some (-1)))
    (h : Q (2, -1, 3) s) : wpAny (model prog w) A (Builtin.Slice.sliceApplied (.ref sl) (pure (3 : Int))) Q E s := by
  obtain ⟨ob, g1, g2, g3⟩ := hs
  unfold Builtin.Slice.sliceApplied Builtin.Slice.sliceFields
  refine wpAny_bind (wpAny_bind (wpAny_field g1 g3 (x := x) rfl (wpAny_bind (wpAny_field g1 g3 (x := y) rfl (wpAny_bind (wpAny_field g1 g3 (x := z) rfl (wpAny_pure ?_)))))))
  refine wpAny_bind (HT.slicePart_ pz ?_)
  show wpAny _ _ (if ((-1 : Int) == 0) = true then _ else _) _ _ s
  rw [if_neg (by decide)]
  refine wpAny_bind (HT.slicePart_ px (wpAny_bind (HT.slicePart_ py (wpAny_bind (wpAny_pure ?_)))))
  show wpAny _ _ (match Builtin.Slice.sliceAdjust none none (-1) (3 : Int) with | (lo, hi) => pure (lo, (-1 : Int), Builtin.Slice.slicePlaces lo hi (-1))) _ _ s
  rw [adj3]
  show wpAny _ _ (pure ((2 : Int), (-1 : Int), Builtin.Slice.slicePlaces 2 (-1) (-1))) _ _ s
  rw [plc3]
  exact wpAny_pure h
theorem back3 {t sl : Addr} {a b c x y z : Value} {Q : Value → Shared → Prop} (ht : IsTup s.heap t #[a, b, c]) (hs : s.heap.IsSliceOf sl x y z) (px : IsPart x none) (py : IsPart y none) (pz : IsPart z (some (-1)))
    (h : Q (.ref s.heap.objs.size) { s with heap := s.heap.push { cls := .type "tuple", data := .seq #[c, b, a] } }) : wpAny (model prog w) A (getItem (.ref t) (.ref sl)) Q E s := by
  obtain ⟨ob, g1, g2, g3⟩ := id hs
  have ty : s.TypeIs (.ref sl) "slice" := ⟨ob, g1, g2⟩
  have fits : sizeOk (.seq #[c, b, a]) := by
    show (3 : Nat) ≤ sizeLine
    decide
  unfold getItem
  try with_reducible refine wpAny_holding ?_
  first | refine wpAny_bind (wpAny_pure ?_) | skip
  refine wpAny_bind (wpAny_sequenceKey ht.typeIs (by decide) ?_)
  refine wpAny_bind (wpAny_callSpecial?_slot (name := Str.ofString "__getitem__") ht.typeIs PyProof.Rows.slot_tuple_getitem (wpAny_call_entry PyProof.Rows.slot_tuple_getitem ht.typeIs entry_tuple_getitem ?_ (args_tuple_getitem _ _)))
  show wpAny _ _ (Builtin.Tuple.tupleItemsOf (.ref t) >>= _) _ _ s
  refine wpAny_bind (tupleItemsOf_ ht (wpAny_bind (wpAny_typeOf ty ?_)))
  rw [if_pos (by decide)]
  refine wpAny_bind (applied3 hs px py pz ?_)
  show wpAny _ _ (if ((2 : Int) == 0 && (-1 : Int) == 1 && (3 : Nat) == 3) = true then _ else _) _ _ s
  rw [if_neg (by decide)]
  have e : ((List.range 3).filterMap fun (k : Nat) => (#[a, b, c] : Array Value)[((2 : Int) + (k : Int) * -1).toNat]?).toArray = #[c, b, a] := by rfl
  rw [e]
  first
    | exact wpAny_bind (m := Builtin.Tuple.tupleExact _) (wpAny_newObj_type (wpAny_pure ⟨_, rfl, wpAny_pure h⟩) fits)
    | exact wpAny_bind (m := Builtin.Tuple.tupleExact _) (wpAny_newObj_type (wpAny_bind (wpAny_pure (wpAny_pure ⟨_, rfl, wpAny_pure h⟩))) fits)
    | exact wpAny_bind (wpAny_bind (m := Builtin.Tuple.tupleExact _) (wpAny_newObj_type (wpAny_pure (wpAny_pure ⟨_, rfl, wpAny_pure h⟩)) fits))
    | exact wpAny_bind (wpAny_bind (m := Builtin.Tuple.tupleExact _) (wpAny_newObj_type (wpAny_pure ⟨_, rfl, wpAny_pure h⟩) fits))
end
section
variable {X : Cx} {pin : List (Option V)} {K : PySem.W.Frag} {S S' H : Hp} {e a b c : Expr} {t ta tb tc tj : TE} {f fj : Fe} {oa ob : Fo} {pos p apos : Pos} {L T F : List It} {ρ ρ2 : Rho} {σ : L2.St}
def rRev3 (K : PySem.W.Frag) : V → Hp → VK → Prop := fun x H Q => ∃ a u v w, x = .ref a ∧ SqT K H a [u, v, w] ∧ ∀ p, H p = none → Q (.ref p) (upd H p (.tup [w, v, u]))
theorem pe_rev3 {k : Nat} {p1 p2 p3 : Pos} (he : PE X e t) : PE X (.Subscript e (.Slice none none (some (.UnaryOp .USub (.Constant (.int 1) k p1) p2)) p3) pos) (tUn (rRev3 X.K) t) := by
  refine ⟨fun pins s σ H Q I h => Subscript_ (thn (he.run pins s σ H _ I h) fun v s1 ⟨x, H1, I1, r1, q1⟩ => ?_)⟩
  obtain ⟨ad, x1, x2, x3, ex, hx, q⟩ := q1
  subst ex
  cases r1
  have step : PO X (some (.UnaryOp .USub (.Constant (.int 1) k p1) p2)) (tPart (tUn (rU fun i => .int (-i)) (tC (.int 1)))) := po_some (pe_un un_neg pe_int)
  refine wpAny_Slice (thn (po_none.run pins s1 σ H1 (fun o H2 => o = none ∧ H2 = H1) I1 ⟨rfl, rfl⟩) fun va s2 ⟨_, H2, I2, pa, ea, e2⟩ => ?_)
  subst ea e2
  refine thn (po_none.run pins s2 σ H2 (fun o H3 => o = none ∧ H3 = H2) I2 ⟨rfl, rfl⟩) fun vb s3 ⟨_, H3, I3, pb, eb, e3⟩ => ?_
  subst eb e3
  refine thn (step.run pins s3 σ H3 (fun o H4 => o = some (-1) ∧ H4 = H3) I3 ⟨1, rfl, -1, rfl, rfl, rfl⟩) fun vc s4 ⟨_, H4, I4, pc, ec, e4⟩ => ?_
  subst ec e4
  have J : Inv X pins σ H4 { s4 with heap := s4.heap.push { cls := .type "slice", data := .fields #[va, vb, vc] } } := I4.kept (t' := s4.toks) fun b ob z => Heap.get?_push_of_some _ z
  obtain ⟨its, r, tp, _⟩ := J.tuple hx
  cases r with
  | @cons _ i1 _ _ r1 r =>
    cases r with
    | @cons _ i2 _ _ r2 r =>
      cases r with
      | @cons _ i3 _ _ r3 r =>
        cases r
        show wpAny (model X.prog X.w) X.A (subscriptTail e (.Slice none none (some (.UnaryOp .USub (.Constant (.int 1) k p1) p2)) p3) (.ref ad) (.ref s4.heap.objs.size)) (EP X pins σ Q) X.xe { s4 with heap := s4.heap.push { cls := .type "slice", data := .fields #[va, vb, vc] } }
        refine tail_any (ops := [.ref ad, .ref s4.heap.objs.size]) tp.typeIs PyProof.Rows.slot_tuple_getitem.lookup ?_ (by with_unfolding_all rfl)
        refine back3 tp (Heap.IsSliceOf.new _ va vb vc) pa pb pc ?_
        refine ⟨.ref _, _, J.laid (t' := s4.toks) (o := .tup [x3, x2, x1]) (fun b ob z => Heap.get?_push_of_some _ z) (Nat.le_refl _) ?_, rfl, q _ (J.hok.fresh (Nat.le_refl _))⟩
        exact ⟨(show (3 : Nat) ≤ sizeLine by decide), [i3, i2, i1], .cons r3 (.cons r2 (.cons r1 .nil)), IsTup.new _ _⟩
def gRev3 : OD → Option OD := fun o => match o with
  | .st (.tup [x, y, z]) => some (.st (.tup [z, y, x]))
  | _ => none
theorem rg_rev3 : RG1 K (rRev3 K) gRev3 := by
  intro S H L x ox oz Q w e k
  unfold gRev3 at e
  split at e
  · rename_i d1 d2 d3
    cases e
    cases w.at0.st with
    | @tup ad vs _ _ h1 h2 h3 _ =>
      match vs, h2, h3 with
      | [u, v, y], _, h3 =>
        simp only [List.zip_cons_cons, List.zip_nil_right] at h3
        refine ⟨ad, u, v, y, rfl, SqT.of (w.le _ _ h1), fun p hp => ?_⟩
        obtain ⟨e1, o1⟩ := Own.newT (p := p) (vs := [y, v, u]) (ds := [d3, d2, d1]) w (.cons h3.tail.tail.head (.cons h3.tail.head (.cons h3.head .nil))) rfl hp
        exact k _ _ _ e1 o1
  · cases e
theorem se_rev3 {k : Nat} {p1 p2 p3 : Pos} (h : SO X pin e t oa) : SE X pin (.Subscript e (.Slice none none (some (.UnaryOp .USub (.Constant (.int 1) k p1) p2)) p3) pos) (tUn (rRev3 X.K) t) (fUn gRev3 oa) := ⟨pe_rev3 h.pe, re_un h.rd rg_rev3⟩
/-! ### a list read backwards -/
def rRevL (K : PySem.W.Frag) : V → Hp → VK → Prop := fun x H Q => ∃ a xs, x = .ref a ∧ SqL K H a xs ∧ ∀ p, H p = none → Q (.ref p) (upd H p (.lst xs.reverse))
def gRevL : OD → Option OD := fun o => match o.rd with
  | some (.lst ds) => some (.ol (ds.reverse.map .st))
  | _ => none
theorem rg_revL : RG1 K (rRevL K) gRevL := by
  intro S H L x ox oz Q w e k
  unfold gRevL at e
  split at e
  · rename_i ds hd
    cases e
    obtain ⟨ad, vs, rfl, ha, hl, hr⟩ := w.at0.lst w.le hd
    refine ⟨ad, vs, rfl, SqL.of ha, fun p hp => k _ S _ (ex_refl S) (Own.newS w ?_ (by simp [hl]) hp)⟩
    refine hr.sub fun q hq => ?_
    have e : vs.reverse.zip ds.reverse = (vs.zip ds).reverse := (List.reverse_zipWith hl).symm
    rw [e] at hq
    exact List.mem_reverse.mp hq
  · cases e
theorem se_revL {k : Nat} {p1 p2 p3 : Pos} (h : SO X pin e t oa) : SE X pin (.Subscript e (.Slice none none (some (.UnaryOp .USub (.Constant (.int 1) k p1) p2)) p3) pos) (tUn (rRevL X.K) t) (fUn gRevL oa) := ⟨pe_revL h.pe, re_un h.rd rg_revL⟩
/-! ### tuples put together -/
def gCatT : OD → OD → Option OD := fun x y => match x, y with
  | .st (.tup xs), .st (.tup ys) => if xs ≠ [] ∧ ys ≠ [] ∧ xs.length + ys.length ≤ big then some (.st (.tup (xs ++ ys))) else none
  | _, _ => none
theorem rg_catT : RG2 K (rCatT K) gCatT := by
  intro S H L x y ox oy oz Q w e k
  unfold gCatT at e
  split at e
  · rename_i xs ys
    split at e
    · rename_i hc
      cases e
      cases w.at1.st with
      | @tup a1 vs _ _ h1 h2 h3 _ =>
        cases w.at0.st with
        | @tup a2 us _ _ g1 g2 g3 _ =>
          have hx : vs ≠ [] := by intro z; subst z; exact hc.1 (List.length_eq_zero_iff.mp h2.symm)
          have hy : us ≠ [] := by intro z; subst z; exact hc.2.1 (List.length_eq_zero_iff.mp g2.symm)
          refine ⟨a1, a2, vs, us, rfl, rfl, SqT.of (w.le _ _ h1), SqT.of (w.le _ _ g1), hx, big_le (by omega), fun z => absurd z hy, fun _ p hp => ?_⟩
          obtain ⟨e1, o1⟩ := Own.newT (p := p) (vs := vs ++ us) (ds := xs ++ ys) w (by rw [List.zip_append h2]; exact h3.append g3) (by simp [h2, g2]) hp
          exact k _ _ _ e1 o1
    · cases e
  · cases e
/-! ### str(i) -/
def gStrI : OD → Option OD := fun o => match o with
  | .st (.int i) => if i.natAbs < 1000000 then some (.st (.str (toString i))) else none
  | _ => none
def rStrI : List V → Hp → VK → Prop := fun xs H Q => ∃ i : Int, xs = [.int i] ∧ i.natAbs.log2 < 1920 ∧ Q (.str (toString i)) H
theorem call_strI : CallR X (.type "str") rStrI := call_str_int
theorem rg_strI : RG1 K (fun x H Q => rStrI [x] H Q) gStrI := by
  intro S H L x ox oz Q w e k
  unfold gStrI at e
  split at e
  · rename_i i
    split at e
    · rename_i hi
      cases e
      have r := w.at0.st
      cases r
      refine ⟨i, rfl, ?_, k _ S H (ex_refl S) (w.push (.str .nil))⟩
      by_cases h0 : i.natAbs = 0
      · rw [h0]; decide
      · exact (Nat.log2_lt h0).mpr (Nat.lt_of_lt_of_le hi (by decide))
    · cases e
  · cases e
/-! ### x is not True, x plain -/
def gNotTrue : OD → OD → Option OD := fun x y => match x, y with
  | .st (.bl b), .st (.bl true) => some (.st (.bl (!b)))
  | .st (.int _), .st (.bl true) => some (.st (.bl true))
  | .st (.str _), .st (.bl true) => some (.st (.bl true))
  | .st .non, .st (.bl true) => some (.st (.bl true))
  | _, _ => none
def rNotTrue : R2 := fun x y H Q => y = .bl true ∧ ((∃ b, x = .bl b ∧ Q (.bl (!b)) H) ∨ (((∃ i, x = .int i) ∨ (∃ z, x = .str z) ∨ x = .non) ∧ Q (.bl true) H))
theorem op_notTrue : OpR X (compareOp .IsNot) rNotTrue := by
  intro pins s σ H x y v u Q I rx ry h
  obtain ⟨rfl, h⟩ := h
  cases (show u = Value.bool true from ry)
  rcases h with ⟨b, rfl, q⟩ | ⟨hx, q⟩
  · cases (show v = Value.bool b from rx)
    cases b with
    | true => exact wpAny_isNot_self rfl ⟨.bl false, H, I, rfl, q⟩
    | false => exact wpAny_isNot_other rfl (fun z => nomatch z) ⟨.bl true, H, I, rfl, q⟩
  · rcases hx with ⟨i, rfl⟩ | ⟨z, rfl⟩ | rfl
    · obtain ⟨t, rfl⟩ := rx
      exact wpAny_isNot_other rfl (fun z => nomatch z) ⟨.bl true, H, I, rfl, q⟩
    · obtain ⟨t, rfl⟩ := rx
      exact wpAny_isNot_other rfl (fun z => nomatch z) ⟨.bl true, H, I, rfl, q⟩
    · cases (show v = Value.none from rx)
      exact wpAny_isNot_other rfl (fun z => nomatch z) ⟨.bl true, H, I, rfl, q⟩
theorem rg_notTrue : RG2 K rNotTrue gNotTrue := by
  intro S H L x y ox oy oz Q w e k
  unfold gNotTrue at e
  split at e
  · cases e
    have r1 := w.at1.st
    have r2 := w.at0.st
    cases r1
    cases r2
    exact ⟨rfl, .inl ⟨_, rfl, k _ S H (ex_refl S) (w.push (.bl .nil))⟩⟩
  · cases e
    have r1 := w.at1.st
    have r2 := w.at0.st
    cases r1
    cases r2
    exact ⟨rfl, .inr ⟨.inl ⟨_, rfl⟩, k _ S H (ex_refl S) (w.push (.bl .nil))⟩⟩
  · cases e
    have r1 := w.at1.st
    have r2 := w.at0.st
    cases r1
    cases r2
    exact ⟨rfl, .inr ⟨.inr (.inl ⟨_, rfl⟩), k _ S H (ex_refl S) (w.push (.bl .nil))⟩⟩
  · cases e
    have r1 := w.at1.st
    have r2 := w.at0.st
    cases r1
    cases r2
    exact ⟨rfl, .inr ⟨.inr (.inr rfl), k _ S H (ex_refl S) (w.push (.bl .nil))⟩⟩
  · cases e
/-! ### repr({}) -/
def rRep0 : List V → Hp → VK → Prop := fun xs H Q => ∃ a, xs = [.ref a] ∧ H a = some (.dK []) ∧ Q (.str (PyData.shown (.dict []))) H
theorem call_rep0 (hu : X.A.units + 66 < cLine) (hg : X.A.guards = some []) : CallR X (.builtin "repr") rRep0 := by
  intro pins s σ H xs us Q I r h
  obtain ⟨a, rfl, ha, q⟩ := h
  obtain ⟨u, rfl, ru⟩ := vals1 r
  cases ru
  obtain ⟨_, hm, vs, rel, o, es, ep, ho, hx, hd, _, hp, _⟩ := dk_of I.hok ha
  cases rel
  have he : es.toList = [] := by
    cases hl : es.toList with
    | nil => rfl
    | cons y ys => rw [hl] at hp; cases hp
  have rd : Reads s.heap (.ref a) (.dict []) [a] := by
    have := Reads.dict (kvs := []) (as := []) (bs := []) ho hx.1 hd (by rw [he]; exact .nil) (by rw [he]; exact .nil)
    simpa using this
  refine repr_of_reads' rd rfl (fun _ z => ?_) hg (by show X.A.units + 2 < cLine; omega) (fun _ _ z => z) (fun h' u tk hk => ⟨.str _, H, I.kept hk, ⟨_, rfl⟩, q⟩) (by decide +kernel)
  have : sysModules = a := by simpa using z
  rw [← this] at hm
  simp at hm
def gRep0 : OD → Option OD := fun o => match o.rd with
  | some (.dK []) => some (.st (.str (PyData.shown (.dict []))))
  | _ => none
theorem rg_rep0 : RG1 K (fun x H Q => rRep0 [x] H Q) gRep0 := by
  intro S H L x ox oz Q w e k
  unfold gRep0 at e
  split at e
  · rename_i hd
    cases e
    obtain ⟨ad, ks, rfl, hA, r⟩ := w.at0.dKr w.le hd
    have : ks = [] := by
      have := r.len
      exact List.length_eq_zero_iff.mp this
    subst this
    exact ⟨ad, rfl, hA, k _ S H (ex_refl S) (w.push (.str .nil))⟩
  · cases e
def rReprQ (K : PySem.W.Frag) : List V → Hp → VK → Prop := fun xs H Q => rRepr K xs H Q ∨ rRep0 xs H Q
theorem cr_reprQ (hu : X.A.units + 66 < cLine) (hg : X.A.guards = some []) : CallR X (.builtin "repr") (rReprQ X.K) := CallR.or (call_repr hu hg) (call_rep0 hu hg)
def gReprQ : OD → Option OD := gOr1 gRepr gRep0
theorem rg_reprQ : RG1 K (fun x H Q => rReprQ K [x] H Q) gReprQ := rg_repr.or rg_rep0
end
end Qy
set_option Elab.async false
set_option linter.all false
set_option maxRecDepth 100000
set_option maxHeartbeats 400000
/-! Running the mirrors by simp. -/
namespace Qy
open PySem L2
theorem ixN0 (n : Nat) : ixN (n + 1) 0 = some 0 := by simp [ixN]
theorem ixN_nat {n i : Nat} (h : i < n) : ixN n (i : Int) = some i := by
  unfold ixN
  rw [if_pos (by omega), if_pos (by omega)]
  simp
theorem gAdd_i (i j : Int) : gAdd (.st (.int i)) (.st (.int j)) = some (.st (.int (i + j))) := rfl
theorem gLt_i (i j : Int) : gLt (.st (.int i)) (.st (.int j)) = some (.st (.bl (decide (i < j)))) := rfl
theorem gSub_i (i j : Int) : gSubI (.st (.int i)) (.st (.int j)) = some (.st (.int (i - j))) := rfl
theorem gMul_i (i j : Int) : gMul (.st (.int i)) (.st (.int j)) = if ((-18446744073709551616 < i ∧ i < 18446744073709551616) ∨ (-18446744073709551616 < j ∧ j < 18446744073709551616)) then some (.st (.int (i * j))) else none := by
  show Option.map OD.st (if ((-(2 ^ 64) < i ∧ i < 2 ^ 64) ∨ (-(2 ^ 64) < j ∧ j < 2 ^ 64)) then some (D.int (i * j)) else none) = _
  have e : (-(2 ^ 64) : Int) = -18446744073709551616 := by decide
  have e' : (2 ^ 64 : Int) = 18446744073709551616 := by decide
  rw [e, e']
  split <;> rfl
theorem gDiv_i (i j : Int) : gDiv (.st (.int i)) (.st (.int j)) = if 0 < j ∧ j < 1073741824 then some (.st (.int (i / j))) else none := by
  show Option.map OD.st (if _ then _ else _) = _
  split <;> rfl
theorem gMod_i (i j : Int) : gMod (.st (.int i)) (.st (.int j)) = if 0 < j then some (.st (.int (i % j))) else none := by
  show Option.map OD.st (if _ then _ else _) = _
  split <;> rfl
theorem gGt_i (i j : Int) : gGt (.st (.int i)) (.st (.int j)) = some (.st (.bl (decide (j < i)))) := rfl
theorem gLe_i (i j : Int) : gLe (.st (.int i)) (.st (.int j)) = some (.st (.bl (decide (i ≤ j)))) := rfl
theorem gGe_i (i j : Int) : gGe (.st (.int i)) (.st (.int j)) = some (.st (.bl (decide (j ≤ i)))) := rfl
theorem gInt_i (i : Int) : gInt (.st (.int i)) = some (.st (.int i)) := rfl
theorem gNeg_i (i : Int) : gNeg (.st (.int i)) = some (.st (.int (-i))) := rfl
theorem gAbs_i (i : Int) : gAbs (.st (.int i)) = some (.st (.int (if i < 0 then -i else i))) := rfl
theorem gMax_i (i j : Int) : gMax2 (.st (.int i)) (.st (.int j)) = some (.st (.int (if j > i then j else i))) := rfl
theorem gMin_i (i j : Int) : gMin2 (.st (.int i)) (.st (.int j)) = some (.st (.int (if j < i then j else i))) := rfl
theorem gPow_i (i j : Int) : gPow (.st (.int i)) (.st (.int j)) = if 0 ≤ j ∧ j ≤ 1000000 ∧ i.natAbs < 2 ^ 64 then some (.st (.int (i ^ j.toNat))) else none := by
  show Option.map OD.st (if _ then _ else _) = _
  split <;> rfl
theorem gAdd_s {x y : Str} (h : x.length + y.length ≤ big) : gAdd (.st (.str x)) (.st (.str y)) = some (.st (.str (x ++ y))) := by
  show gOr2 gAddI (gOr2 gAddS gCat) _ _ = _
  simp [gOr2, gAddI, gII, gAddS, gSS, h]
/-- a text by its signs -/
abbrev tx (l : List Nat) : Str := ⟨l.toArray⟩
theorem tx_self (z : Str) : tx z.cps.toList = z := by cases z; simp [tx]
theorem tx_len (l : List Nat) : (tx l).length = l.length := by simp [tx, Str.length]
theorem joinL0 : ∀ ls : List (List Nat), TL.joinL [] ls = ls.flatten
  | [] => rfl
  | [p] => by simp [TL.joinL]
  | p :: q :: r => by
    show p ++ ([] ++ TL.joinL [] (q :: r)) = _
    rw [joinL0 (q :: r)]
    simp
theorem str0 : Str.ofString "" = tx [] := by decide +kernel
theorem join0 (ls : List (List Nat)) : Txt.join (Str.ofString "") (ls.map tx) = tx ls.flatten := by
  rw [str0, ← joinL0]
  exact SX.join_S [] ls
/-! ### loops -/
theorem compL_t {own : List Nat} {tg : Fg} {tt : Ft} {te : Fe} {d : D} {ds : List D} {ρ ρ1 ρ2 ρ3 : Rho} {acc : List OD} {o : OD} (h1 : tg (.st d) ρ = some ρ1) (h2 : tt ρ1 = some (true, ρ2)) (h3 : te ρ2 = some (o, ρ3)) (h4 : acc.length ≤ big) :
    compL own tg tt te (d :: ds) ρ acc = compL own tg tt te ds (wipeR ρ3 own) (acc ++ [o]) := by
  simp only [compL, h1, h2, h3, if_pos h4]
theorem compL_f {own : List Nat} {tg : Fg} {tt : Ft} {te : Fe} {d : D} {ds : List D} {ρ ρ1 ρ2 : Rho} {acc : List OD} (h1 : tg (.st d) ρ = some ρ1) (h2 : tt ρ1 = some (false, ρ2)) :
    compL own tg tt te (d :: ds) ρ acc = compL own tg tt te ds (wipeR ρ2 own) acc := by
  simp only [compL, h1, h2]
/-- a comprehension that leaves the slots as they were -/
theorem compL_pure {own : List Nat} {tg : Fg} {tt : Ft} {te : Fe} {ρ0 : Rho} {p : D → Bool} {g : D → OD} : ∀ {ds : List D} {acc : List OD},
    (∀ d ∈ ds, ∃ ρ1 ρ2, tg (.st d) ρ0 = some ρ1 ∧ tt ρ1 = some (p d, ρ2) ∧ (p d = false → wipeR ρ2 own = ρ0) ∧ (p d = true → ∃ ρ3, te ρ2 = some (g d, ρ3) ∧ wipeR ρ3 own = ρ0)) → acc.length + ds.length ≤ big →
    compL own tg tt te ds ρ0 acc = some (acc ++ (ds.filter p).map g, ρ0)
  | [], acc, _, _ => by simp [compL]
  | d :: ds, acc, h, hb => by
    simp only [List.length_cons] at hb
    obtain ⟨ρ1, ρ2, h1, h2, h3, h4⟩ := h d List.mem_cons_self
    have ih := fun acc => compL_pure (acc := acc) (fun x hx => h x (List.mem_cons_of_mem _ hx))
    cases hp : p d with
    | false =>
      rw [hp] at h2
      rw [compL_f h1 h2, h3 hp, ih acc (by omega)]
      simp [hp]
    | true =>
      rw [hp] at h2
      obtain ⟨ρ3, h5, h6⟩ := h4 hp
      rw [compL_t h1 h2 h5 (by omega), h6, ih _ (by simp; omega)]
      simp [hp]
/-- a for whose body always comes to its end -/
theorem loopF_inv {tg : Fg} {body : Fs} (I : Nat → Rho → Prop) : ∀ {ds : List D} {i : Nat} {ρ : Rho}, I i ρ →
    (∀ j d ρ, ds[j]? = some d → I (i + j) ρ → ∃ ρ1 ρ2, tg (.st d) ρ = some ρ1 ∧ body ρ1 = some (.nx ρ2) ∧ I (i + j + 1) ρ2) → ∃ ρ', loopF tg body ds ρ = some (.nx ρ') ∧ I (i + ds.length) ρ'
  | [], i, ρ, h, _ => ⟨ρ, rfl, h⟩
  | d :: ds, i, ρ, h, hs => by
    obtain ⟨ρ1, ρ2, h1, h2, h3⟩ := hs 0 d ρ rfl h
    obtain ⟨ρ', h4, h5⟩ := loopF_inv I (ds := ds) (i := i + 1) h3 (fun j x ρ hx hi => by
      have := hs (j + 1) x ρ (by simpa using hx) (by rw [show i + (j + 1) = i + 1 + j by omega]; exact hi)
      rw [show i + (j + 1) + 1 = i + 1 + j + 1 by omega] at this
      exact this)
    refine ⟨ρ', ?_, by rw [List.length_cons, show i + (ds.length + 1) = i + 1 + ds.length by omega]; exact h5⟩
    simp only [loopF, h1, h2]
    exact h4
/-- a while by a measure -/
theorem loopW_inv {c : Ft} {body : Fs} (I : Rho → Prop) (μ : Rho → Nat) (hs : ∀ ρ, I ρ → (∃ ρ1, c ρ = some (false, ρ1) ∧ True) ∨ ∃ ρ1 ρ2, c ρ = some (true, ρ1) ∧ body ρ1 = some (.nx ρ2) ∧ I ρ2 ∧ μ ρ2 < μ ρ) :
    ∀ (n : Nat) (ρ : Rho), I ρ → μ ρ < n → ∃ ρ0 ρ', loopW c body n ρ = some (.nx ρ') ∧ I ρ0 ∧ c ρ0 = some (false, ρ')
  | 0, _, _, h => absurd h (Nat.not_lt_zero _)
  | n + 1, ρ, h, hm => by
    rcases hs ρ h with ⟨ρ1, h1, _⟩ | ⟨ρ1, ρ2, h1, h2, h3, h4⟩
    · exact ⟨ρ, ρ1, by simp only [loopW, h1], h, h1⟩
    · obtain ⟨ρ0, ρ', h5, h6, h7⟩ := loopW_inv I μ hs n ρ2 h3 (by omega)
      exact ⟨ρ0, ρ', by simp only [loopW, h1, h2]; exact h5, h6, h7⟩
end Qy
namespace Qy
open PySem L2
theorem scAll_str : ∀ xs : List Str, scAll (xs.map .str) = some (xs.map .str)
  | [] => rfl
  | x :: r => by simp [scAll, scOf, scAll_str r]
theorem scAll_int : ∀ xs : List Int, scAll (xs.map .int) = some (xs.map .int)
  | [] => rfl
  | x :: r => by simp [scAll, scOf, scAll_int r]
theorem inV_str (x : Str) : ∀ xs : List Str, inV (.str x) (xs.map .str) = decide (x ∈ xs)
  | [] => rfl
  | y :: r => by
    have ih := inV_str x r
    unfold inV at ih ⊢
    rw [List.map_cons, List.any_cons, ih]
    show (y == x || decide (x ∈ r)) = _
    by_cases h : x = y
    · subst h; simp
    · have : (y == x) = false := beq_eq_false_iff_ne.mpr (Ne.symm h)
      rw [this]
      simp [h]
theorem inV_int (x : Int) : ∀ xs : List Int, inV (.int x) (xs.map .int) = decide (x ∈ xs)
  | [] => rfl
  | y :: r => by
    have ih := inV_int x r
    unfold inV at ih ⊢
    rw [List.map_cons, List.any_cons, ih]
    show (y == x || decide (x ∈ r)) = _
    by_cases h : x = y
    · subst h; simp
    · have : (y == x) = false := beq_eq_false_iff_ne.mpr (Ne.symm h)
      rw [this]
      simp [h]
/-- a list or a tuple of texts, of ints -/
def IsSeq (o : OD) (ds : List D) : Prop := o.rd = some (.lst ds) ∨ o.rd = some (.tup ds)
theorem in_str {neg : Bool} {x : Str} {xs : List Str} {o : OD} (h : IsSeq o (xs.map .str)) : gInF neg (.st (.str x)) o = some (.st (.bl (if neg then !decide (x ∈ xs) else decide (x ∈ xs)))) := by
  unfold gInF
  rcases h with h | h <;> rw [h] <;> simp [OD.rd, scOf, scAll_str, inV_str]
theorem in_int {neg : Bool} {x : Int} {xs : List Int} {o : OD} (h : IsSeq o (xs.map .int)) : gInF neg (.st (.int x)) o = some (.st (.bl (if neg then !decide (x ∈ xs) else decide (x ∈ xs)))) := by
  unfold gInF
  rcases h with h | h <;> rw [h] <;> simp [OD.rd, scOf, scAll_int, inV_int]
theorem notIn_str {x : Str} {xs : List Str} {o : OD} (h : IsSeq o (xs.map .str)) : gNotInQ (.st (.str x)) o = some (.st (.bl (!decide (x ∈ xs)))) := by
  unfold gNotInQ gOr2
  rw [in_str h]
  rfl
theorem notIn_int {x : Int} {xs : List Int} {o : OD} (h : IsSeq o (xs.map .int)) : gNotInQ (.st (.int x)) o = some (.st (.bl (!decide (x ∈ xs)))) := by
  unfold gNotInQ gOr2
  rw [in_int h]
  rfl
theorem inS_none {a : D} {o : OD} {ds : List D} (h : IsSeq o ds) : gInS (.st a) o = none := by
  unfold gInS gSS
  split
  · rename_i i j h1 h2
    rcases h with h | h <;> simp [OD.rd] at h
  · rfl
theorem inQ_str {x : Str} {xs : List Str} {o : OD} (h : IsSeq o (xs.map .str)) : gInQ (.st (.str x)) o = some (.st (.bl (decide (x ∈ xs)))) := by
  unfold gInQ gOr2
  rw [inS_none h]
  simp only
  rw [in_str h]
  rfl
theorem inQ_int {x : Int} {xs : List Int} {o : OD} (h : IsSeq o (xs.map .int)) : gInQ (.st (.int x)) o = some (.st (.bl (decide (x ∈ xs)))) := by
  unfold gInQ gOr2
  rw [inS_none h]
  simp only
  rw [in_int h]
  rfl
/-- a list of texts by their signs -/
abbrev wD (ws : List (List Nat)) : List D := ws.map fun l => .str (tx l)
abbrev wO (ws : List (List Nat)) : OD := .ol ((wD ws).map .st)
theorem tx_inj {a b : List Nat} (h : tx a = tx b) : a = b := by
  have := congrArg (fun s : Str => s.cps.toList) h
  simpa using this
theorem mem_tx {l : List Nat} {ws : List (List Nat)} : tx l ∈ ws.map tx ↔ l ∈ ws := by
  constructor
  · intro h
    obtain ⟨m, hm, e⟩ := List.mem_map.mp h
    rw [← tx_inj e]; exact hm
  · exact fun h => List.mem_map.mpr ⟨l, h, rfl⟩
theorem wD_eq (ws : List (List Nat)) : wD ws = (ws.map tx).map .str := by rw [List.map_map]; rfl
theorem seq_wO (ws : List (List Nat)) : IsSeq (wO ws) ((ws.map tx).map .str) := .inl (by
  show (stAll _).map D.lst = _
  rw [stAll_map, wD_eq]
  rfl)
theorem seq_wL (ws : List (List Nat)) : IsSeq (.st (.lst (wD ws))) ((ws.map tx).map .str) := .inl (by rw [← wD_eq]; rfl)
theorem seq_wT (ws : List (List Nat)) : IsSeq (.st (.tup (wD ws))) ((ws.map tx).map .str) := .inr (by rw [← wD_eq]; rfl)
theorem notIn_w {l : List Nat} {ws : List (List Nat)} {o : OD} (h : IsSeq o ((ws.map tx).map .str)) : gNotInQ (.st (.str (tx l))) o = some (.st (.bl (!decide (l ∈ ws)))) := by
  rw [notIn_str h]
  simp only [mem_tx]
theorem in_w {l : List Nat} {ws : List (List Nat)} {o : OD} (h : IsSeq o ((ws.map tx).map .str)) : gInQ (.st (.str (tx l))) o = some (.st (.bl (decide (l ∈ ws)))) := by
  rw [inQ_str h]
  simp only [mem_tx]
/-! ### data of texts -/
def Sm (l : List Nat) : Prop := ∀ c ∈ l, c < 1114112
theorem strOk_tx {l : List Nat} (h : Sm l) : PyData.strOk (tx l) = true := by
  unfold PyData.strOk
  rw [← Array.all_toList]
  exact List.all_eq_true.mpr fun c hc => by simpa using h c (by simpa using hc)
theorem pyL_w : ∀ ws : List (List Nat), pyL (wD ws) = some (ws.map fun l => .str (tx l))
  | [] => rfl
  | l :: r => by
    show (match (D.str (tx l)).py, pyL (wD r) with | some p, some ps => some (p :: ps) | _, _ => none) = _
    rw [pyL_w r]
    rfl
theorem lay_w : ∀ {ws : List (List Nat)}, (∀ l ∈ ws, Sm l) → PyData.canLayAll0 (ws.map fun l => .str (tx l)) = true
  | [], _ => rfl
  | l :: r, h => by
    show (PyData.canLay0 (.str (tx l)) && PyData.canLayAll0 _) = true
    rw [lay_w fun x hx => h x (List.mem_cons_of_mem _ hx), Bool.and_true]
    exact strOk_tx (h l List.mem_cons_self)
theorem depth_w : ∀ ws : List (List Nat), PyData.depthAll (ws.map fun l => .str (tx l)) = 0
  | [] => rfl
  | l :: r => by
    show max (PyData.depth (.str (tx l))) (PyData.depthAll _) = 0
    rw [depth_w r]
    rfl
theorem shaped_s {l : List Nat} (h : Sm l) : SeqAt.shaped (.str (tx l)) = true := by
  unfold SeqAt.shaped
  rw [show PyData.canLay0 (.str (tx l)) = true from strOk_tx h]
  rfl
theorem shaped_w {ws : List (List Nat)} (h : ∀ l ∈ ws, Sm l) : SeqAt.shaped (.list (ws.map fun l => .str (tx l))) = true := by
  unfold SeqAt.shaped
  rw [show PyData.canLay0 (.list (ws.map fun l => .str (tx l))) = true from lay_w h]
  show (true && decide (PyData.depthAll _ + 1 ≤ 64)) = true
  rw [depth_w]
  rfl
theorem eqv_s (a b : List Nat) : PyData.eqv (.str (tx a)) (.str (tx b)) = decide (a = b) := by
  show (tx a == tx b) = _
  by_cases h : a = b
  · subst h; simp
  · have : (tx a == tx b) = false := beq_eq_false_iff_ne.mpr fun z => h (tx_inj z)
    rw [this]; simp [h]
theorem neS {a b : List Nat} (ha : Sm a) (hb : Sm b) : gNe (.st (.str (tx a))) (.st (.str (tx b))) = some (.st (.bl (!decide (a = b)))) := by
  show (if SeqAt.shaped (.str (tx a)) = true ∧ SeqAt.shaped (.str (tx b)) = true then _ else _) = _
  rw [if_pos ⟨shaped_s ha, shaped_s hb⟩, eqv_s]
theorem eqS {a b : List Nat} (ha : Sm a) (hb : Sm b) : gEq (.st (.str (tx a))) (.st (.str (tx b))) = some (.st (.bl (decide (a = b)))) := by
  show (if SeqAt.shaped (.str (tx a)) = true ∧ SeqAt.shaped (.str (tx b)) = true then _ else _) = _
  rw [if_pos ⟨shaped_s ha, shaped_s hb⟩, eqv_s]
theorem neL {ws : List (List Nat)} (h : ∀ l ∈ ws, Sm l) : gNe (.st (.lst (wD ws))) (.ol []) = some (.st (.bl (!decide (ws = [])))) := by
  have e1 : OD.py (.st (.lst (wD ws))) = some (.list (ws.map fun l => .str (tx l))) := by
    show (pyL (wD ws)).map PyData.list = _
    rw [pyL_w]
    rfl
  have e2 : OD.py (.ol []) = some (.list []) := rfl
  unfold gNe
  rw [e1, e2]
  simp only
  rw [if_pos ⟨shaped_w h, rfl⟩]
  cases ws with
  | nil => rfl
  | cons a r => rfl
end Qy
set_option Elab.async false
set_option linter.all false
set_option maxRecDepth 100000
set_option maxHeartbeats 400000
/-! sorted: the order of data is total; lists with the same members are sorted alike. -/
namespace Qy
open PySem L2
abbrev tk (d : D) : List (Int ⊕ List Nat) := W.keyToks (pyD d)
theorem leD_total : W.TotalLe leD := W.sortLe_total _ false _
theorem leD_anti {a b : D} (h1 : leD a b = true) (h2 : leD b a = true) : tk a = tk b := by
  have e1 : PyProof.Rows.lexLt PyProof.Rows.itemOrd (tk b) (tk a) = false := by
    have : (!PyProof.Rows.lexLt PyProof.Rows.itemOrd (tk b) (tk a)) = true := h1
    simpa using this
  have e2 : PyProof.Rows.lexLt PyProof.Rows.itemOrd (tk a) (tk b) = false := by
    have : (!PyProof.Rows.lexLt PyProof.Rows.itemOrd (tk a) (tk b)) = true := h2
    simpa using this
  exact (PyProof.Rows.listOrd PyProof.Rows.itemOrd).total _ _ e2 e1
theorem sorted_leD (xs : List D) : (xs.mergeSort leD).Pairwise fun a b => leD a b = true := by
  exact List.pairwise_mergeSort (fun a b c => leD_total.trans a b c) (fun a b => by simpa using leD_total.total a b) xs
theorem sort_perm {xs ys : List D} (p : xs.Perm ys) (inj : ∀ a ∈ xs, ∀ b ∈ xs, tk a = tk b → a = b) : xs.mergeSort leD = ys.mergeSort leD := by
  have p1 := List.mergeSort_perm xs leD
  have p2 := List.mergeSort_perm ys leD
  refine List.Perm.eq_of_pairwise (fun a b ha hb h1 h2 => ?_) (sorted_leD xs) (sorted_leD ys) (p1.trans (p.trans p2.symm))
  exact inj a (p1.mem_iff.mp ha) b (p.symm.mem_iff.mp (p2.mem_iff.mp hb)) (leD_anti h1 h2)
/-- what stands in order stays -/
theorem sort_self {xs : List D} (h : xs.Pairwise fun a b => leD a b = true) : xs.mergeSort leD = xs := List.mergeSort_of_pairwise h
end Qy
set_option Elab.async false
set_option linter.all false
set_option maxRecDepth 100000
set_option maxHeartbeats 400000
/-! Places reached by links; lists of ints that have the same members. -/
namespace Qy
open PySem L2
/-- reached from s along the links E -/
inductive Rch (E : List (Int × Int)) (s : Int) : Int → Prop
  | here : Rch E s s
  | step {a b : Int} : Rch E s a → (a, b) ∈ E → Rch E s b
theorem Rch.trans {E : List (Int × Int)} {a b c : Int} (h1 : Rch E a b) (h2 : Rch E b c) : Rch E a c := by
  induction h2 with
  | here => exact h1
  | step _ e ih => exact .step ih e
/-- a closed set that has s has all that is reached -/
theorem Rch.closed {E : List (Int × Int)} {s x : Int} {P : Int → Prop} (h : Rch E s x) (h0 : P s) (hc : ∀ a b, P a → (a, b) ∈ E → P b) : P x := by
  induction h with
  | here => exact h0
  | step _ e ih => exact hc _ _ ih e
theorem Rch.mono {E E' : List (Int × Int)} {s x : Int} (h : Rch E s x) (hs : ∀ p ∈ E, p ∈ E') : Rch E' s x := by
  induction h with
  | here => exact .here
  | step _ e ih => exact .step ih (hs _ e)
/-- links taken both ways -/
def both (E : List (Int × Int)) : List (Int × Int) := E ++ E.map fun p => (p.2, p.1)
theorem both_mem {E : List (Int × Int)} {a b : Int} : (a, b) ∈ both E ↔ (a, b) ∈ E ∨ (b, a) ∈ E := by
  unfold both
  rw [List.mem_append, List.mem_map]
  constructor
  · rintro (h | ⟨p, hp, e⟩)
    · exact .inl h
    · cases e; exact .inr hp
  · rintro (h | h)
    · exact .inl h
    · exact .inr ⟨(b, a), h, rfl⟩
theorem Rch.symm {E : List (Int × Int)} {a b : Int} (h : Rch (both E) a b) : Rch (both E) b a := by
  induction h with
  | here => exact .here
  | step _ e ih => exact Rch.trans (.step .here (both_mem.mpr (both_mem.mp e).symm)) ih
theorem sortI_perm (ks : List Int) : (sortI ks).Perm ks := List.mergeSort_perm ks _
theorem sortI_mem {ks : List Int} {x : Int} : x ∈ sortI ks ↔ x ∈ ks := (sortI_perm ks).mem_iff
theorem sortI_sorted (ks : List Int) : (sortI ks).Pairwise (· ≤ ·) := by
  have := List.pairwise_mergeSort (le := fun (a b : Int) => decide (a ≤ b)) (by intro a b c; simp; omega) (by intro a b; simp; omega) ks
  exact this.imp (by intro a b h; simpa using h)
/-- the same members, none twice: sorted alike -/
theorem sortI_same {a b : List Int} (ha : a.Nodup) (hb : b.Nodup) (h : ∀ x, x ∈ a ↔ x ∈ b) : sortI a = sortI b :=
  sortI_eq ((sortI_perm a).trans (List.perm_iff_count.mpr fun x => by
    rw [ha.count, hb.count]
    simp only [h x])) (sortI_sorted a)
end Qy
set_option Elab.async false
set_option linter.all false
set_option maxRecDepth 100000
set_option maxHeartbeats 400000
/-! Lists of ints as data; dicts of ints; what is reached, as a list. -/
namespace Qy
open PySem L2
theorem big0 : (0 ≤ big) = True := eq_true (by decide)
theorem big1 : (1 ≤ big) = True := eq_true (by decide)
theorem big2 : (2 ≤ big) = True := eq_true (by decide)
theorem big3 : (3 ≤ big) = True := eq_true (by decide)
theorem big4 : (4 ≤ big) = True := eq_true (by decide)
theorem big5 : (5 ≤ big) = True := eq_true (by decide)
abbrev iD (ks : List Int) : List D := ks.map .int
abbrev iO (ks : List Int) : OD := .ol ((iD ks).map .st)
theorem val_iO (ks : List Int) : OD.val (iO ks) = .lst (iD ks) := by
  show D.lst (valL _) = _
  rw [valL_map, List.map_map]
  congr 1
  exact List.map_id' _
theorem rd_ol (ds : List D) : OD.rd (.ol (ds.map .st)) = some (.lst ds) := by
  show (stAll _).map D.lst = _
  rw [stAll_map]
  rfl
theorem val_ol (ds : List D) : OD.val (.ol (ds.map .st)) = .lst ds := by
  show D.lst (valL _) = _
  rw [valL_map, List.map_map]
  congr 1
  exact List.map_id' _
theorem valL_st (ds : List D) : valL (ds.map .st) = ds := by
  rw [valL_map, List.map_map]
  exact List.map_id' _
theorem pyL_i : ∀ ks : List Int, pyL (iD ks) = some (ks.map .int)
  | [] => rfl
  | l :: r => by
    show (match (D.int l).py, pyL (iD r) with | some p, some ps => some (p :: ps) | _, _ => none) = _
    rw [pyL_i r]
    rfl
theorem lay_i : ∀ ks : List Int, PyData.canLayAll0 (ks.map .int) = true
  | [] => rfl
  | l :: r => by
    show (PyData.canLay0 (.int l) && PyData.canLayAll0 _) = true
    rw [lay_i r]
    rfl
theorem depth_i : ∀ ks : List Int, PyData.depthAll (ks.map .int) = 0
  | [] => rfl
  | l :: r => by
    show max (PyData.depth (.int l)) (PyData.depthAll _) = 0
    rw [depth_i r]
    rfl
theorem shaped_i (ks : List Int) : SeqAt.shaped (.list (ks.map .int)) = true := by
  unfold SeqAt.shaped
  rw [show PyData.canLay0 (.list (ks.map .int)) = true from lay_i ks]
  show (true && decide (PyData.depthAll _ + 1 ≤ 64)) = true
  rw [depth_i]
  rfl
theorem py_iO (ks : List Int) : OD.py (iO ks) = some (.list (ks.map .int)) := by
  unfold OD.py
  rw [val_iO]
  show (pyL _).map PyData.list = _
  rw [pyL_i]
  rfl
theorem neI0 (ks : List Int) : gNe (iO ks) (.ol []) = some (.st (.bl (!decide (ks = [])))) := by
  have e2 : OD.py (.ol []) = some (.list []) := rfl
  unfold gNe
  rw [py_iO, e2]
  simp only
  rw [if_pos ⟨shaped_i ks, rfl⟩]
  cases ks with
  | nil => rfl
  | cons a r => rfl
theorem gAdd_l {x y : OD} {xs ys : List D} (hx : x.rd = some (.lst xs)) (hy : y.rd = some (.lst ys)) (h : xs.length + ys.length ≤ big) : gAdd x y = some (.ol ((xs ++ ys).map .st)) := by
  have e1 : gAddI x y = none := by
    cases x with
    | st d => cases hx; rfl
    | _ => rfl
  have e2 : gAddS x y = none := by
    cases x with
    | st d => cases hx; rfl
    | _ => rfl
  show gOr2 gAddI (gOr2 gAddS gCat) x y = _
  unfold gOr2
  rw [e1]
  simp only
  rw [e2]
  simp only [gCat, hx, hy, if_pos h]
/-! ### dicts -/
theorem valA_nil {α : Type} (k : Key) : valA ([] : List (Key × α)) k = none := rfl
theorem valA_cons {α : Type} (p : Key × α) (r : List (Key × α)) (k : Key) : valA (p :: r) k = if p.1 = k then some p.2 else valA r k := by
  unfold valA
  rw [List.find?_cons]
  by_cases h : p.1 = k
  · simp [h]
  · simp [h]
theorem valA_map {α : Type} (k k' : Key) (v : α) : ∀ kvs : List (Key × α), valA (kvs.map fun kv => if kv.1 = k then (kv.1, v) else kv) k' = if k = k' ∧ (kvs.any fun kv => decide (kv.1 = k)) = true then some v else valA kvs k'
  | [] => by simp [valA_nil]
  | p :: r => by
    rw [List.map_cons, valA_cons, valA_map k k' v r, valA_cons, List.any_cons]
    by_cases h1 : p.1 = k
    · rw [if_pos h1]
      by_cases h2 : k = k'
      · simp [h1, h2]
      · have : ¬ p.1 = k' := fun z => h2 (h1.symm.trans z)
        simp [h1, h2, this]
    · rw [if_neg h1]
      by_cases h2 : k = k'
      · subst h2
        have hd : decide (p.1 = k) = false := by simpa using h1
        rw [hd, Bool.false_or]
        simp [h1]
      · simp [h1, h2]
theorem valA_app {α : Type} (k k' : Key) (v : α) : ∀ kvs : List (Key × α), (kvs.any fun kv => decide (kv.1 = k)) = false → valA (kvs ++ [(k, v)]) k' = if k = k' then some v else valA kvs k'
  | [], _ => by simp [valA_cons, valA_nil]
  | p :: r, h => by
    rw [List.any_cons, Bool.or_eq_false_iff] at h
    have h1 : ¬ p.1 = k := by simpa using h.1
    rw [List.cons_append, valA_cons, valA_app k k' v r h.2, valA_cons]
    by_cases h2 : k = k'
    · subst h2; simp [h1]
    · simp [h2]
theorem valA_put {α : Type} (kvs : List (Key × α)) (k k' : Key) (v : α) : valA (putA kvs k v) k' = if k = k' then some v else valA kvs k' := by
  unfold putA
  by_cases h : (kvs.any fun kv => decide (kv.1 = k)) = true
  · rw [if_pos h, valA_map, h]
    simp
  · rw [if_neg h, valA_app _ _ _ _ (Bool.eq_false_iff.mpr h)]
theorem len_put {α : Type} (kvs : List (Key × α)) (k : Key) (v : α) : (putA kvs k v).length ≤ kvs.length + 1 := by
  unfold putA
  split <;> simp
abbrev kB (ks : List Int) : List (Key × D) := ks.map fun x => (.inl x, .bl true)
theorem any_kB (g : Int) : ∀ ks : List Int, ((kB ks).any fun kv => decide (kv.1 = .inl g)) = decide (g ∈ ks)
  | [] => rfl
  | a :: r => by
    show (decide ((Sum.inl a : Key) = .inl g) || _) = _
    rw [any_kB g r]
    by_cases h : a = g
    · subst h; simp
    · have : g ≠ a := fun z => h z.symm
      simp [h, this]
theorem valA_kB (g : Int) : ∀ ks : List Int, (valA (kB ks) (.inl g)).isSome = decide (g ∈ ks)
  | [] => rfl
  | a :: r => by
    show (valA ((Sum.inl a, D.bl true) :: kB r) (.inl g)).isSome = _
    rw [valA_cons]
    by_cases h : a = g
    · subst h; simp
    · have : g ≠ a := fun z => h z.symm
      have h' : ¬ ((Sum.inl a : Key) = .inl g) := fun z => h (Sum.inl.inj z)
      rw [if_neg h', valA_kB g r]
      simp [this]
theorem put_new {ks : List Int} {g : Int} (h : g ∉ ks) : putA (kB ks) (.inl g) (.bl true) = kB (ks ++ [g]) := by
  unfold putA
  rw [any_kB, if_neg (by simpa using h)]
  simp
theorem put_old {ks : List Int} {g : Int} (h : g ∈ ks) : putA (kB ks) (.inl g) (.bl true) = kB ks := by
  unfold putA
  rw [any_kB, if_pos (by simpa using h), List.map_map]
  refine List.map_congr_left fun x _ => ?_
  simp only [Function.comp]
  split
  · rfl
  · rfl
theorem intsK_kB : ∀ ks : List Int, intsK (kB ks) = some ks
  | [] => rfl
  | a :: r => by
    show (intsK (kB r)).map (a :: ·) = _
    rw [intsK_kB r]
    rfl
theorem sortedD_kB {ks : List Int} (h : ks.length < 64) : gSortedD (.oK (stD (kB ks))) = some (iO (sortI ks)) := by
  have e : OD.rd (.oK (stD (kB ks))) = some (.dK (kB ks)) := by
    show (stK _).map D.dK = _
    rw [stK_map]
    rfl
  unfold gSortedD
  rw [e]
  simp only [intsK_kB, if_pos h]
  simp only [iO, iD, List.map_map]
  rfl
/-! ### lists without repetition below a bound -/
theorem nodup_le : ∀ (n : Nat) (ks : List Int), ks.Nodup → (∀ x ∈ ks, 0 ≤ x ∧ x < (n : Int)) → ks.length ≤ n
  | 0, [], _, _ => Nat.le_refl _
  | 0, a :: _, _, h => by have := h a List.mem_cons_self; omega
  | n + 1, ks, nd, h => by
    have h1 := nodup_le n (ks.erase (n : Int)) (nd.erase _) (fun x hx => by
      have hx' := List.mem_of_mem_erase hx
      have := h x hx'
      have hne : x ≠ (n : Int) := fun z => by
        subst z
        exact (List.Nodup.not_mem_erase nd) hx
      omega)
    have := List.length_erase_le (a := (n : Int)) (l := ks)
    have h2 : ks.length ≤ (ks.erase (n : Int)).length + 1 := by
      rw [List.length_erase]
      split <;> omega
    omega
/-- the places below n that are reached from s -/
noncomputable def rl (E : List (Int × Int)) (n : Nat) (s : Int) : List Int := by
  classical
  exact ((List.range n).map fun (i : Nat) => (i : Int)).filter fun x => decide (Rch E s x)
theorem rl_mem {E : List (Int × Int)} {n : Nat} {s x : Int} : x ∈ rl E n s ↔ (0 ≤ x ∧ x < (n : Int)) ∧ Rch E s x := by
  classical
  unfold rl
  rw [List.mem_filter, List.mem_map]
  constructor
  · rintro ⟨⟨i, hi, rfl⟩, h⟩
    have := List.mem_range.mp hi
    exact ⟨by omega, by simpa using h⟩
  · rintro ⟨h1, h2⟩
    exact ⟨⟨x.toNat, List.mem_range.mpr (by omega), by omega⟩, by simpa using h2⟩
theorem rng_lt (n : Nat) : ((List.range n).map fun (i : Nat) => (i : Int)).Pairwise (· < ·) := by
  rw [List.pairwise_map]
  exact List.pairwise_lt_range.imp fun h => by omega
theorem rl_lt (E : List (Int × Int)) (n : Nat) (s : Int) : (rl E n s).Pairwise (· < ·) := by
  unfold rl
  exact (rng_lt n).filter _
theorem rl_nodup (E : List (Int × Int)) (n : Nat) (s : Int) : (rl E n s).Nodup := (rl_lt E n s).imp fun h => by omega
theorem rl_len (E : List (Int × Int)) (n : Nat) (s : Int) : (rl E n s).length ≤ n := nodup_le n _ (rl_nodup E n s) fun x hx => (rl_mem.mp hx).1
theorem sort_rl {E : List (Int × Int)} {n : Nat} {s : Int} {ks : List Int} (nd : ks.Nodup) (hb : ∀ x, Rch E s x → 0 ≤ x ∧ x < (n : Int)) (h : ∀ x, x ∈ ks ↔ Rch E s x) : sortI ks = rl E n s := by
  have e : sortI ks = sortI (rl E n s) := sortI_same nd (rl_nodup E n s) fun x => by
    rw [h x, rl_mem]
    exact ⟨fun z => ⟨hb x z, z⟩, fun z => z.2⟩
  rw [e]
  exact (sortI_eq (.refl _) ((rl_lt E n s).imp fun h => by omega)).symm
end Qy
set_option Elab.async false
set_option linter.all false
set_option maxRecDepth 100000
set_option maxHeartbeats 400000
/-! repr of small data. -/
namespace Qy
open PySem L2
def Sok (z : Str) : Prop := ∀ c ∈ z.cps.toList, c < 1114112
theorem Sok.append {a b : Str} (ha : Sok a) (hb : Sok b) : Sok (a ++ b) := fun c hc => by
  have e : (a ++ b).cps.toList = a.cps.toList ++ b.cps.toList := by
    show (a.cps ++ b.cps).toList = _
    simp
  rw [e] at hc
  rcases List.mem_append.mp hc with h | h
  · exact ha c h
  · exact hb c h
theorem char_lt (c : Char) : c.toNat < 1114112 := by
  have h := c.valid
  rcases h with h | h
  · show c.val.toNat < _
    have : c.val.toNat < 0xd800 := h
    omega
  · exact h.2
theorem sok_of (s : String) : Sok (Str.ofString s) := fun c hc => by
  rw [Str.ofString_eq_toList] at hc
  have : c ∈ s.toList.map Char.toNat := by simpa using hc
  obtain ⟨d, _, rfl⟩ := List.mem_map.mp this
  exact char_lt d
theorem sok_join : ∀ {ts : List Str}, (∀ t ∈ ts, Sok t) → Sok (Str.join ", " ts)
  | [], _ => fun c hc => by
    have : c ∈ ([] : List Nat) := hc
    cases this
  | [t], h => h t List.mem_cons_self
  | t :: u :: r, h => by
    show Sok (t ++ ", " ++ Str.join ", " (u :: r))
    exact ((h t List.mem_cons_self).append (sok_of _)).append (sok_join fun x hx => h x (List.mem_cons_of_mem _ hx))
structure Rep (w k : Nat) (d : PyData) : Prop where
  sh : d.showable = true
  hd : d.hasDict = false
  dp : d.depth ≤ k
  lv : d.leavesShort 13 = true
  wt : d.weight ≤ w
  sk : Sok d.shown
theorem Rep.le {w w' k k' : Nat} {d : PyData} (h : Rep w k d) (hw : w ≤ w') (hk : k ≤ k') : Rep w' k' d := ⟨h.sh, h.hd, Nat.le_trans h.dp hk, h.lv, Nat.le_trans h.wt hw, h.sk⟩
theorem rep_none : Rep 0 0 .none := ⟨rfl, rfl, Nat.zero_le _, rfl, Nat.le_refl _, by rw [PyData.shown_none]; exact sok_of _⟩
theorem rep_bool (b : Bool) : Rep 0 0 (.bool b) := ⟨rfl, rfl, Nat.zero_le _, rfl, Nat.le_refl _, by rw [PyData.shown_bool]; cases b <;> exact sok_of _⟩
theorem rep_int {i : Int} (h : i.natAbs < 10 ^ 12) : Rep 41 0 (.int i) := by
  have hl : i.natAbs ≠ 0 → i.natAbs.log2 < 40 := fun h0 => (Nat.log2_lt h0).mpr (Nat.lt_of_lt_of_le h (by decide))
  have hl' : i.natAbs.log2 < 40 := by
    by_cases h0 : i.natAbs = 0
    · rw [h0]; decide
    · exact hl h0
  refine ⟨?_, rfl, Nat.zero_le _, ?_, ?_, by rw [PyData.shown_int]; exact sok_of _⟩
  · show decide (i.natAbs.log2 < 1920) = true
    simp; omega
  · show decide ((PyData.shown (.int i)).length ≤ 13) = true
    simpa using PyData.shown_int_le h
  · show (if i == 0 then 0 else i.natAbs.log2 + 1) ≤ 41
    split <;> omega
theorem rep_all {w k : Nat} : ∀ {xs : List PyData}, (∀ x ∈ xs, Rep w k x) → PyData.showableAll xs = true ∧ PyData.hasDictAll xs = false ∧ PyData.depthAll xs ≤ k ∧ PyData.leavesShortAll 13 xs = true ∧ PyData.weightAll xs ≤ (w + 1) * xs.length ∧ ∀ t ∈ PyData.shownAll xs, Sok t
  | [], _ => ⟨rfl, rfl, Nat.zero_le _, rfl, Nat.le_refl _, fun t ht => by simp [PyData.shownAll] at ht⟩
  | x :: xs, h => by
    obtain ⟨h1, h2, h3, h4, h5, h6⟩ := rep_all (xs := xs) fun y hy => h y (List.mem_cons_of_mem _ hy)
    have hx := h x List.mem_cons_self
    refine ⟨?_, ?_, ?_, ?_, ?_, ?_⟩
    · show (x.showable && _) = true
      rw [hx.sh, h1]; rfl
    · show (x.hasDict || _) = false
      rw [hx.hd, h2]; rfl
    · show max x.depth _ ≤ k
      have := hx.dp
      omega
    · show (x.leavesShort 13 && _) = true
      rw [hx.lv, h4]; rfl
    · show x.weight + 1 + PyData.weightAll xs ≤ _
      have := hx.wt
      rw [List.length_cons, Nat.mul_succ]
      omega
    · intro t ht
      rw [PyData.shownAll_cons] at ht
      rcases List.mem_cons.mp ht with rfl | ht
      · exact hx.sk
      · exact h6 t ht
theorem rep_list {w k n : Nat} {xs : List PyData} (h : ∀ x ∈ xs, Rep w k x) (hn : xs.length ≤ n) : Rep ((w + 1) * n) (k + 1) (.list xs) := by
  obtain ⟨h1, h2, h3, h4, h5, h6⟩ := rep_all h
  refine ⟨h1, h2, ?_, h4, Nat.le_trans h5 (Nat.mul_le_mul_left _ hn), ?_⟩
  · show PyData.depthAll xs + 1 ≤ k + 1
    omega
  · rw [PyData.shown_list]
    exact ((sok_of _).append (sok_join h6)).append (sok_of _)
theorem rep_tuple {w k n : Nat} {xs : List PyData} (h : ∀ x ∈ xs, Rep w k x) (hn : xs.length ≤ n) : Rep ((w + 1) * n) (k + 1) (.tuple xs) := by
  obtain ⟨h1, h2, h3, h4, h5, h6⟩ := rep_all h
  refine ⟨h1, h2, ?_, h4, Nat.le_trans h5 (Nat.mul_le_mul_left _ hn), ?_⟩
  · show PyData.depthAll xs + 1 ≤ k + 1
    omega
  · rw [PyData.shown_tuple]
    exact ((sok_of _).append (sok_join h6)).append (sok_of _)
theorem rep_ints {n : Nat} {ks : List Int} (h : ∀ i ∈ ks, i.natAbs < 10 ^ 12) (hn : ks.length ≤ n) : Rep (42 * n) 1 (.list (ks.map .int)) :=
  rep_list (w := 41) (k := 0) (fun x hx => by
    obtain ⟨i, hi, rfl⟩ := List.mem_map.mp hx
    exact rep_int (h i hi)) (by simpa using hn)
theorem repr_rep {o : OD} {P : PyData} {w k : Nat} (hp : o.py = some P) (h : Rep w k P) (hw : 15 * w + 13 ≤ 1000000) (hk : k ≤ 64) : gRepr o = some (.st (.str P.shown)) := by
  unfold gRepr
  rw [hp]
  simp only
  have := PyData.shown_le 13 (by decide) P h.lv
  have h2 : (13 + 2) * P.weight ≤ 15 * w := Nat.mul_le_mul_left _ h.wt
  have h3 := h.dp
  rw [if_pos ⟨h.sh, h.hd, by omega, by unfold big; omega⟩]
theorem shaped_sok {z : Str} (h : Sok z) : SeqAt.shaped (.str z) = true := by
  rw [← tx_self z]
  exact shaped_s fun c hc => h c hc
theorem ne_same {z : Str} (h : Sok z) : gNe (.st (.str z)) (.st (.str z)) = some (.st (.bl false)) := by
  show (if SeqAt.shaped (.str z) = true ∧ SeqAt.shaped (.str z) = true then _ else _) = _
  rw [if_pos ⟨shaped_sok h, shaped_sok h⟩]
  show some (OD.st (.bl (!(z == z)))) = _
  simp
theorem eq_same {z : Str} (h : Sok z) : gEq (.st (.str z)) (.st (.str z)) = some (.st (.bl true)) := by
  show (if SeqAt.shaped (.str z) = true ∧ SeqAt.shaped (.str z) = true then _ else _) = _
  rw [if_pos ⟨shaped_sok h, shaped_sok h⟩]
  show some (OD.st (.bl (z == z))) = _
  simp
/-- a comprehension whose slots keep an invariant -/
theorem compL_inv {own : List Nat} {tg : Fg} {tt : Ft} {te : Fe} (I : Rho → Prop) {p : D → Bool} {g : D → OD} : ∀ {ds : List D} {acc : List OD} {ρ : Rho}, I ρ →
    (∀ d ∈ ds, ∀ ρ, I ρ → ∃ ρ1 ρ2, tg (.st d) ρ = some ρ1 ∧ tt ρ1 = some (p d, ρ2) ∧ (p d = false → I (wipeR ρ2 own)) ∧ (p d = true → ∃ ρ3, te ρ2 = some (g d, ρ3) ∧ I (wipeR ρ3 own))) → acc.length + ds.length ≤ big →
    ∃ ρ', compL own tg tt te ds ρ acc = some (acc ++ (ds.filter p).map g, ρ') ∧ I ρ'
  | [], acc, ρ, h0, _, _ => ⟨ρ, by simp [compL], h0⟩
  | d :: ds, acc, ρ, h0, h, hb => by
    simp only [List.length_cons] at hb
    obtain ⟨ρ1, ρ2, h1, h2, h3, h4⟩ := h d List.mem_cons_self ρ h0
    have ih := fun acc ρ h0 hb => compL_inv I (ds := ds) (acc := acc) (ρ := ρ) h0 (fun x hx => h x (List.mem_cons_of_mem _ hx)) hb
    cases hp : p d with
    | false =>
      rw [hp] at h2
      obtain ⟨ρ', e, hi⟩ := ih acc _ (h3 hp) (by omega)
      exact ⟨ρ', by rw [compL_f h1 h2, e]; simp [hp], hi⟩
    | true =>
      rw [hp] at h2
      obtain ⟨ρ3, h5, h6⟩ := h4 hp
      obtain ⟨ρ', e, hi⟩ := ih (acc ++ [g d]) _ h6 (by simp; omega)
      exact ⟨ρ', by rw [compL_t h1 h2 h5 (by omega), e]; simp [hp], hi⟩
end Qy
set_option Elab.async false
set_option linter.all false
set_option maxRecDepth 100000
set_option maxHeartbeats 400000
/-! repr of texts. -/
namespace Qy
open PySem L2
theorem reprChar_sok {q c : Nat} (hc : c < 1114112) : ∀ x ∈ Builtin.Str.reprChar q c, x < 1114112 := by
  have hex : ∀ (n : Nat), ∀ x ∈ List.replicate n 48 ++ (Nat.toDigits 16 c).map Char.toNat, x < 1114112 := by
    intro n x hx
    rcases List.mem_append.mp hx with h | h
    · rw [(List.mem_replicate.mp h).2]; decide
    · obtain ⟨d, _, rfl⟩ := List.mem_map.mp h
      exact char_lt d
  intro x hx
  unfold Builtin.Str.reprChar at hx
  dsimp only at hx
  split at hx
  · simp only [List.mem_cons, List.not_mem_nil, or_false] at hx; rcases hx with rfl | rfl <;> omega
  · split at hx
    · simp only [List.mem_cons, List.not_mem_nil, or_false] at hx; rcases hx with rfl | rfl <;> omega
    · split at hx
      · simp only [List.mem_cons, List.not_mem_nil, or_false] at hx; rcases hx with rfl | rfl <;> omega
      · split at hx
        · simp only [List.mem_cons, List.not_mem_nil, or_false] at hx; rcases hx with rfl | rfl <;> omega
        · split at hx
          · simp only [List.mem_cons, List.not_mem_nil, or_false] at hx; omega
          · split at hx
            · rcases List.mem_append.mp hx with h | h
              · simp only [List.mem_cons, List.not_mem_nil, or_false] at h; rcases h with rfl | rfl <;> omega
              · exact hex _ x h
            · split at hx
              · rcases List.mem_append.mp hx with h | h
                · simp only [List.mem_cons, List.not_mem_nil, or_false] at h; rcases h with rfl | rfl <;> omega
                · exact hex _ x h
              · rcases List.mem_append.mp hx with h | h
                · simp only [List.mem_cons, List.not_mem_nil, or_false] at h; rcases h with rfl | rfl <;> omega
                · exact hex _ x h
theorem reprText_sok {x : Str} (h : Sok x) : Sok (reprText x) := by
  have hq : reprQuote x < 1114112 := by
    unfold reprQuote
    split <;> decide
  have key : ∀ (l : List Nat) (acc : Array Nat), (∀ c ∈ l, c < 1114112) → (∀ c ∈ acc.toList, c < 1114112) → ∀ c ∈ (l.foldl (fun out c => out ++ (Builtin.Str.reprChar (reprQuote x) c).toArray) acc).toList, c < 1114112 := by
    intro l
    induction l with
    | nil => exact fun acc _ ha => ha
    | cons a r ih =>
      intro acc hl ha
      rw [List.foldl_cons]
      refine ih _ (fun c hc => hl c (List.mem_cons_of_mem _ hc)) fun c hc => ?_
      rw [Array.toList_append] at hc
      rcases List.mem_append.mp hc with z | z
      · exact ha c z
      · exact reprChar_sok (hl a List.mem_cons_self) c (by simpa using z)
  intro c hc
  unfold reprText at hc
  simp only at hc
  rw [Array.toList_push] at hc
  rcases List.mem_append.mp hc with z | z
  · rw [← Array.foldl_toList] at z
    exact key x.cps.toList #[reprQuote x] h (by intro d hd; have : d = reprQuote x := by simpa using hd
                                                subst this; exact hq) c z
  · have : c = reprQuote x := by simpa using z
    rw [this]; exact hq
theorem rep_str {x : Str} {k : Nat} (h : Sok x) (hl : x.length ≤ k) : Rep k 0 (.str x) := by
  refine ⟨rfl, rfl, Nat.zero_le _, ?_, hl, ?_⟩
  · show (x.cps.toList.all fun c => decide (c < 16 ^ 8)) = true
    rw [List.all_eq_true]
    intro c hc
    have := h c hc
    simp only [decide_eq_true_eq]
    exact Nat.lt_trans this (by decide)
  · rw [PyData.shown_str]
    exact reprText_sok h
end Qy
set_option Elab.async false
set_option linter.all false
set_option maxRecDepth 100000
set_option maxHeartbeats 400000
/-! repr of triples tells them apart. -/
namespace Qy
open PySem L2
abbrev cs (z : Str) : List Nat := z.cps.toList
theorem cs_inj {a b : Str} (h : cs a = cs b) : a = b := by
  rw [← tx_self a, ← tx_self b]
  exact congrArg tx h
theorem cs_app (a b : Str) : cs (a ++ b) = cs a ++ cs b := by
  show (a.cps ++ b.cps).toList = _
  simp
/-- parts of a text between marks -/
theorem part_eq {m : Nat} : ∀ {a b r t : List Nat}, m ∉ a → m ∉ b → a ++ m :: r = b ++ m :: t → a = b ∧ r = t
  | [], [], r, t, _, _, h => ⟨rfl, by simpa using h⟩
  | [], x :: b, r, t, _, hb, h => by
    simp only [List.nil_append, List.cons_append, List.cons.injEq] at h
    exact absurd (by rw [h.1]; exact List.mem_cons_self) hb
  | x :: a, [], r, t, ha, _, h => by
    simp only [List.nil_append, List.cons_append, List.cons.injEq] at h
    exact absurd (by rw [h.1]; exact List.mem_cons_self) ha
  | x :: a, y :: b, r, t, ha, hb, h => by
    simp only [List.cons_append, List.cons.injEq] at h
    have ih := part_eq (a := a) (b := b) (fun z => ha (List.mem_cons_of_mem _ z)) (fun z => hb (List.mem_cons_of_mem _ z)) h.2
    exact ⟨by rw [h.1, ih.1], ih.2⟩
theorem shown3 (x y z : PyData) : cs (PyData.shown (.tuple [x, y, z])) = 40 :: (cs x.shown ++ 44 :: 32 :: (cs y.shown ++ 44 :: 32 :: (cs z.shown ++ [41]))) := by
  have e1 : cs (Str.ofString "(") = [40] := by decide +kernel
  have e2 : cs (Str.ofString ", ") = [44, 32] := by decide +kernel
  have e3 : cs (Str.ofString ")") = [41] := by decide +kernel
  rw [PyData.shown_tuple]
  show cs ("(" ++ (x.shown ++ ", " ++ (y.shown ++ ", " ++ z.shown)) ++ ")") = _
  rw [cs_app, cs_app, cs_app, cs_app, cs_app, cs_app, e1, e2, e3]
  simp
/-- a triple of parts without commas -/
theorem inj3 {x y z x' y' z' : PyData} (h1 : 44 ∉ cs x.shown) (h2 : 44 ∉ cs y.shown) (h3 : 44 ∉ cs x'.shown) (h4 : 44 ∉ cs y'.shown) (h : PyData.shown (.tuple [x, y, z]) = PyData.shown (.tuple [x', y', z'])) :
    x.shown = x'.shown ∧ y.shown = y'.shown ∧ z.shown = z'.shown := by
  have e := congrArg cs h
  rw [shown3, shown3, List.cons.injEq] at e
  obtain ⟨e1, e2⟩ := part_eq h1 h3 e.2
  rw [List.cons.injEq] at e2
  obtain ⟨e3, e4⟩ := part_eq h2 h4 e2.2
  rw [List.cons.injEq] at e4
  have e5 := List.append_cancel_right e4.2
  exact ⟨cs_inj e1, cs_inj e3, cs_inj e5⟩
/-! ### small ints, words -/
theorem int_sh (i : Int) : PyData.shown (.int i) = Str.ofString (toString i) := PyData.shown_int i
theorem small_sh : ∀ i < 40, 44 ∉ cs (Str.ofString (toString ((i : Nat) : Int))) ∧ (cs (Str.ofString (toString ((i : Nat) : Int)))).head?.all (fun c => decide (48 ≤ c ∧ c ≤ 57)) = true ∧ cs (Str.ofString (toString ((i : Nat) : Int))) ≠ [] := by decide +kernel
theorem small_inj : ∀ i < 40, ∀ j < 40, cs (Str.ofString (toString ((i : Nat) : Int))) = cs (Str.ofString (toString ((j : Nat) : Int))) → i = j := by decide +kernel
theorem int_no {i : Int} (h0 : 0 ≤ i) (h1 : i < 40) : 44 ∉ cs (PyData.shown (.int i)) := by
  obtain ⟨n, rfl⟩ := Int.eq_ofNat_of_zero_le h0
  rw [int_sh]
  exact (small_sh n (by omega)).1
theorem int_dig {i : Int} (h0 : 0 ≤ i) (h1 : i < 40) : ∃ c r, cs (PyData.shown (.int i)) = c :: r ∧ 48 ≤ c ∧ c ≤ 57 := by
  obtain ⟨n, rfl⟩ := Int.eq_ofNat_of_zero_le h0
  rw [int_sh]
  obtain ⟨_, h2, h3⟩ := small_sh n (by omega)
  cases e : cs (Str.ofString (toString ((n : Nat) : Int))) with
  | nil => exact absurd e h3
  | cons c r =>
    rw [e] at h2
    simp at h2
    exact ⟨c, r, rfl, h2.1, h2.2⟩
theorem int_inj {i j : Int} (h0 : 0 ≤ i) (h1 : i < 40) (g0 : 0 ≤ j) (g1 : j < 40) (h : PyData.shown (.int i) = PyData.shown (.int j)) : i = j := by
  obtain ⟨n, rfl⟩ := Int.eq_ofNat_of_zero_le h0
  obtain ⟨m, rfl⟩ := Int.eq_ofNat_of_zero_le g0
  rw [int_sh, int_sh] at h
  have := small_inj n (by omega) m (by omega) (congrArg cs h)
  rw [this]
def LowS (z : Str) : Prop := ∀ c ∈ cs z, 97 ≤ c ∧ c ≤ 122
theorem char_low : ∀ c < 123, 97 ≤ c → Builtin.Str.reprChar 39 c = [c] := by decide +kernel
theorem word_sh {z : Str} (h : LowS z) : cs (PyData.shown (.str z)) = 39 :: (cs z ++ [39]) := by
  rw [PyData.shown_str]
  have hq : reprQuote z = 39 := by
    unfold reprQuote
    rw [if_neg]
    intro e
    rw [Bool.and_eq_true] at e
    have h39 : 39 ∈ cs z := by simpa using e.1
    have := h 39 h39
    omega
  unfold reprText
  rw [hq]
  show ((z.cps.foldl (fun out c => out ++ (Builtin.Str.reprChar 39 c).toArray) #[39]).push 39).toList = _
  rw [Array.toList_push, ← Array.foldl_toList]
  have key : ∀ (l : List Nat) (acc : Array Nat), (∀ c ∈ l, 97 ≤ c ∧ c ≤ 122) → (l.foldl (fun out c => out ++ (Builtin.Str.reprChar 39 c).toArray) acc).toList = acc.toList ++ l := by
    intro l
    induction l with
    | nil => intro acc _; simp
    | cons a r ih =>
      intro acc hl
      have ha := hl a List.mem_cons_self
      rw [List.foldl_cons, ih _ (fun c hc => hl c (List.mem_cons_of_mem _ hc)), char_low a (by omega) ha.1]
      simp
  rw [key _ _ h]
  simp
theorem word_no {z : Str} (h : LowS z) : 44 ∉ cs (PyData.shown (.str z)) := by
  rw [word_sh h]
  intro e
  simp only [List.mem_cons, List.mem_append, List.not_mem_nil, or_false] at e
  rcases e with e | e | e
  · omega
  · have := h 44 e; omega
  · omega
theorem word_inj {a b : Str} (ha : LowS a) (hb : LowS b) (h : PyData.shown (.str a) = PyData.shown (.str b)) : a = b := by
  have e := congrArg cs h
  rw [word_sh ha, word_sh hb, List.cons.injEq] at e
  exact cs_inj (List.append_cancel_right e.2)
/-- other things in the place of an int -/
theorem none_ne {i : Int} (h0 : 0 ≤ i) (h1 : i < 40) : PyData.shown .none ≠ PyData.shown (.int i) := by
  obtain ⟨c, r, e, h2, h3⟩ := int_dig h0 h1
  intro h
  have e' := congrArg cs h
  rw [e] at e'
  have e0 : cs (PyData.shown .none) = [78, 111, 110, 101] := by decide +kernel
  rw [e0, List.cons.injEq] at e'
  omega
theorem false_ne {i : Int} (h0 : 0 ≤ i) (h1 : i < 40) : PyData.shown (.bool false) ≠ PyData.shown (.int i) := by
  obtain ⟨c, r, e, h2, h3⟩ := int_dig h0 h1
  intro h
  have e' := congrArg cs h
  rw [e] at e'
  have e0 : cs (PyData.shown (.bool false)) = [70, 97, 108, 115, 101] := by decide +kernel
  rw [e0, List.cons.injEq] at e'
  omega
theorem false_no : 44 ∉ cs (PyData.shown (.bool false)) := by decide +kernel
/-- a text's repr begins with a quote -/
theorem str_q (z : Str) : ∃ c r, cs (PyData.shown (.str z)) = c :: r ∧ (c = 39 ∨ c = 34) := by
  rw [PyData.shown_str]
  have hq : reprQuote z = 39 ∨ reprQuote z = 34 := by
    unfold reprQuote
    split
    · exact .inr rfl
    · exact .inl rfl
  unfold reprText
  show ∃ c r, ((z.cps.foldl (fun out c => out ++ (Builtin.Str.reprChar (reprQuote z) c).toArray) #[reprQuote z]).push (reprQuote z)).toList = c :: r ∧ _
  rw [Array.toList_push, ← Array.foldl_toList]
  have key : ∀ (l : List Nat) (acc : Array Nat), ∃ r, (l.foldl (fun out c => out ++ (Builtin.Str.reprChar (reprQuote z) c).toArray) acc).toList = acc.toList ++ r := by
    intro l
    induction l with
    | nil => intro acc; exact ⟨[], by simp⟩
    | cons a t ih =>
      intro acc
      obtain ⟨r, e⟩ := ih (acc ++ (Builtin.Str.reprChar (reprQuote z) a).toArray)
      exact ⟨_, by rw [List.foldl_cons, e, Array.toList_append, List.append_assoc]⟩
  obtain ⟨r, e⟩ := key z.cps.toList #[reprQuote z]
  rw [e]
  exact ⟨reprQuote z, r ++ [reprQuote z], by simp, hq⟩
theorem str_ne_int {z : Str} {i : Int} (h0 : 0 ≤ i) (h1 : i < 40) : PyData.shown (.str z) ≠ PyData.shown (.int i) := by
  obtain ⟨c, r, e, h2, h3⟩ := int_dig h0 h1
  obtain ⟨c', r', e2, h4⟩ := str_q z
  intro h
  have e' := congrArg cs h
  rw [e, e2, List.cons.injEq] at e'
  omega
/-- a list of one word -/
theorem list_sh (z : Str) : cs (PyData.shown (.list [.str z])) = 91 :: (cs (PyData.shown (.str z)) ++ [93]) := by
  have e1 : cs (Str.ofString "[") = [91] := by decide +kernel
  have e3 : cs (Str.ofString "]") = [93] := by decide +kernel
  rw [PyData.shown_list]
  show cs ("[" ++ PyData.shown (.str z) ++ "]") = _
  rw [cs_app, cs_app, e1, e3]
  simp
theorem list_no {z : Str} (h : LowS z) : 44 ∉ cs (PyData.shown (.list [.str z])) := by
  rw [list_sh]
  intro e
  simp only [List.mem_cons, List.mem_append, List.not_mem_nil, or_false] at e
  rcases e with e | e | e
  · omega
  · exact word_no h e
  · omega
theorem list_ne_str {z y : Str} : PyData.shown (.list [.str z]) ≠ PyData.shown (.str y) := by
  obtain ⟨c', r', e2, h4⟩ := str_q y
  intro h
  have e' := congrArg cs h
  rw [list_sh, e2, List.cons.injEq] at e'
  omega
end Qy
set_option Elab.async false
set_option linter.all false
set_option maxRecDepth 100000
set_option maxHeartbeats 400000
/-! Going along steps from a place, the nearer places first. -/
namespace Qy
open PySem L2
abbrev Stp := Int × Str × Int
def atS (A : List Stp) (p : Int) : List Stp := A.filter fun s => decide (s.1 = p)
def vis (d : Int) (L : List (Int × Int)) (s : Stp) : List (Int × Int) := if s.2.2 ∈ L.map (·.1) then L else L ++ [(s.2.2, d + 1)]
def grow (A : List Stp) (L : List (Int × Int)) (k : Nat) : List (Int × Int) := match L[k]? with
  | some x => (atS A x.1).foldl (vis x.2) L
  | none => L
def bfs (A : List Stp) (s : Int) : Nat → List (Int × Int)
  | 0 => [(s, 0)]
  | k + 1 => grow A (bfs A s k) k
structure BfI (A : List Stp) (s : Int) (n : Nat) (L : List (Int × Int)) : Prop where
  nd : (L.map (·.1)).Nodup
  hd : L[0]? = some (s, 0)
  bk : ∀ x ∈ L, x = (s, 0) ∨ (0 < x.2 ∧ ∃ y ∈ L, x.2 = y.2 + 1 ∧ ∃ w, (y.1, w, x.1) ∈ A)
  nn : ∀ x ∈ L, 0 ≤ x.2
  rg : ∀ x ∈ L, 0 ≤ x.1 ∧ x.1 < (n : Int)
theorem BfI.len {A : List Stp} {s : Int} {n : Nat} {L : List (Int × Int)} (h : BfI A s n L) : L.length ≤ n := by
  have := nodup_le n (L.map (·.1)) h.nd (fun x hx => by
    obtain ⟨y, hy, rfl⟩ := List.mem_map.mp hx
    exact h.rg y hy)
  simpa using this
theorem vis_ok {A : List Stp} {s : Int} {n : Nat} {L : List (Int × Int)} (hA : ∀ t ∈ A, 0 ≤ t.2.2 ∧ t.2.2 < (n : Int)) (h : BfI A s n L) {p d : Int} (hp : (p, d) ∈ L) {t : Stp} (ht : t ∈ A) (hp' : t.1 = p) :
    BfI A s n (vis d L t) ∧ L <+: vis d L t ∧ t.2.2 ∈ (vis d L t).map (·.1) := by
  unfold vis
  by_cases hm : t.2.2 ∈ L.map (·.1)
  · rw [if_pos hm]; exact ⟨h, List.prefix_refl _, hm⟩
  · rw [if_neg hm]
    have hne : L ≠ [] := by intro z; subst z; cases hp
    refine ⟨⟨?_, ?_, ?_, ?_, ?_⟩, List.prefix_append _ _, by simp⟩
    · rw [List.map_append, List.nodup_append]
      refine ⟨h.nd, by simp, fun a ha b hb => ?_⟩
      have : b = t.2.2 := by simpa using hb
      subst this
      rintro rfl
      exact hm ha
    · rw [List.getElem?_append_left (List.length_pos_iff.mpr hne)]; exact h.hd
    · intro x hx
      rcases List.mem_append.mp hx with hx | hx
      · rcases h.bk x hx with z | ⟨h0, y, hy, h1, h2⟩
        · exact .inl z
        · exact .inr ⟨h0, y, List.mem_append_left _ hy, h1, h2⟩
      · have : x = (t.2.2, d + 1) := by simpa using hx
        subst this
        have := h.nn _ hp
        refine .inr ⟨by simp only at this ⊢; omega, (p, d), List.mem_append_left _ hp, rfl, t.2.1, ?_⟩
        subst hp'
        exact ht
    · intro x hx
      rcases List.mem_append.mp hx with hx | hx
      · exact h.nn x hx
      · have : x = (t.2.2, d + 1) := by simpa using hx
        subst this
        have := h.nn _ hp
        simp only at this ⊢
        omega
    · intro x hx
      rcases List.mem_append.mp hx with hx | hx
      · exact h.rg x hx
      · have : x = (t.2.2, d + 1) := by simpa using hx
        subst this
        exact hA t ht
theorem visL_ok {A : List Stp} {s : Int} {n : Nat} (hA : ∀ t ∈ A, 0 ≤ t.2.2 ∧ t.2.2 < (n : Int)) {p d : Int} : ∀ (T : List Stp) {L : List (Int × Int)}, BfI A s n L → (p, d) ∈ L → (∀ t ∈ T, t ∈ A ∧ t.1 = p) →
    BfI A s n (T.foldl (vis d) L) ∧ L <+: T.foldl (vis d) L ∧ ∀ t ∈ T, t.2.2 ∈ (T.foldl (vis d) L).map (·.1)
  | [], L, h, _, _ => ⟨h, List.prefix_refl _, fun _ z => nomatch z⟩
  | t :: T, L, h, hp, hT => by
    obtain ⟨h1, h2, h3⟩ := vis_ok hA h hp (hT t List.mem_cons_self).1 (hT t List.mem_cons_self).2
    obtain ⟨h4, h5, h6⟩ := visL_ok hA T h1 (h2.subset hp) (fun x hx => hT x (List.mem_cons_of_mem _ hx))
    refine ⟨h4, h2.trans h5, fun x hx => ?_⟩
    rcases List.mem_cons.mp hx with rfl | hx
    · exact (h5.map (·.1)).subset h3
    · exact h6 x hx
theorem atS_mem {A : List Stp} {p : Int} {t : Stp} : t ∈ atS A p ↔ t ∈ A ∧ t.1 = p := by simp [atS]
theorem bfs_ok {A : List Stp} {s : Int} {n : Nat} (hA : ∀ t ∈ A, 0 ≤ t.2.2 ∧ t.2.2 < (n : Int)) (hs : 0 ≤ s ∧ s < (n : Int)) : ∀ k, BfI A s n (bfs A s k) ∧ ∀ i < k, ∀ x, (bfs A s k)[i]? = some x → ∀ t ∈ A, t.1 = x.1 → t.2.2 ∈ (bfs A s k).map (·.1)
  | 0 => ⟨⟨by simp [bfs], rfl, fun x hx => .inl (by simpa [bfs] using hx), fun x hx => by simp [bfs] at hx; subst hx; exact Int.le_refl _, fun x hx => by simp [bfs] at hx; subst hx; exact hs⟩, fun i hi => absurd hi (Nat.not_lt_zero _)⟩
  | k + 1 => by
    obtain ⟨h, hc⟩ := bfs_ok hA hs k
    show BfI A s n (grow A (bfs A s k) k) ∧ ∀ i < k + 1, ∀ x, (grow A (bfs A s k) k)[i]? = some x → ∀ t ∈ A, t.1 = x.1 → t.2.2 ∈ (grow A (bfs A s k) k).map (·.1)
    unfold grow
    cases hk : (bfs A s k)[k]? with
    | none =>
      refine ⟨h, fun i hi x hx t ht e => ?_⟩
      rcases Nat.lt_succ_iff_lt_or_eq.mp hi with z | z
      · exact hc i z x hx t ht e
      · subst z
        simp only at hx
        rw [hk] at hx; cases hx
    | some y =>
      obtain ⟨p, d⟩ := y
      have hp : (p, d) ∈ bfs A s k := List.mem_of_getElem? hk
      obtain ⟨h4, h5, h6⟩ := visL_ok (p := p) (d := d) hA (atS A p) h hp (fun t ht => atS_mem.mp ht)
      refine ⟨h4, fun i hi x hx t ht e => ?_⟩
      have hik : i < (bfs A s k).length := by
        have := (List.getElem?_eq_some_iff.mp hk).1
        omega
      have hx' : (bfs A s k)[i]? = some x := by
        obtain ⟨r, hr⟩ := h5
        simp only at hx
        rw [← hr, List.getElem?_append_left hik] at hx
        exact hx
      rcases Nat.lt_succ_iff_lt_or_eq.mp hi with z | z
      · exact (h5.map (·.1)).subset (hc i z x hx' t ht e)
      · subst z
        rw [hk] at hx'
        cases hx'
        exact h6 t (atS_mem.mpr ⟨ht, e⟩)
theorem bfs_stay {A : List Stp} {s : Int} {k : Nat} (h : (bfs A s k).length ≤ k) : ∀ j, bfs A s (k + j) = bfs A s k
  | 0 => rfl
  | j + 1 => by
    show grow A (bfs A s (k + j)) (k + j) = _
    rw [bfs_stay h j]
    unfold grow
    rw [List.getElem?_eq_none (by omega)]
/-- all places that are come to, with how far they are -/
def farL (A : List Stp) (s : Int) : List (Int × Int) := bfs A s 30
theorem bfs_end {A : List Stp} {s : Int} {k : Nat} (hk : k ≤ 30) (h : (bfs A s k).length ≤ k) : bfs A s k = farL A s := by
  have := bfs_stay h (30 - k)
  rw [show k + (30 - k) = 30 by omega] at this
  exact this.symm
structure FarI (A : List Stp) (s : Int) (n : Nat) (L : List (Int × Int)) : Prop extends BfI A s n L where
  cl : ∀ x ∈ L, ∀ t ∈ A, t.1 = x.1 → t.2.2 ∈ L.map (·.1)
theorem farL_ok {A : List Stp} {s : Int} {n : Nat} (hn : n ≤ 30) (hA : ∀ t ∈ A, 0 ≤ t.2.2 ∧ t.2.2 < (n : Int)) (hs : 0 ≤ s ∧ s < (n : Int)) : FarI A s n (farL A s) := by
  obtain ⟨h, hc⟩ := bfs_ok hA hs 30
  refine ⟨h, fun x hx t ht e => ?_⟩
  obtain ⟨i, hi⟩ := List.mem_iff_getElem?.mp hx
  have := h.len
  have := (List.getElem?_eq_some_iff.mp hi).1
  exact hc i (by unfold farL at *; omega) x hi t ht e
/-! ### looking up -/
def look (L : List (Int × Int)) (p : Int) : Option Int := (L.find? fun x => decide (x.1 = p)).map (·.2)
theorem look_mem {L : List (Int × Int)} (nd : (L.map (·.1)).Nodup) {p d : Int} : look L p = some d ↔ (p, d) ∈ L := by
  induction L with
  | nil => simp [look]
  | cons x r ih =>
    rw [List.map_cons, List.nodup_cons] at nd
    have ih' := ih nd.2
    unfold look at ih' ⊢
    rw [List.find?_cons]
    by_cases h : x.1 = p
    · simp only [h, decide_true, Option.map_some, Option.some.injEq, List.mem_cons]
      constructor
      · intro e; left; rw [← h, ← e]
      · rintro (e | e)
        · rw [← e]
        · exfalso
          apply nd.1
          rw [h]
          exact List.mem_map.mpr ⟨_, e, rfl⟩
    · simp only [h, decide_false, List.mem_cons]
      rw [ih']
      constructor
      · exact .inr
      · rintro (e | e)
        · exact absurd (by rw [← e]) h
        · exact e
theorem look_some {L : List (Int × Int)} {p : Int} : (look L p).isSome = true ↔ p ∈ L.map (·.1) := by
  unfold look
  rw [Option.isSome_map, List.find?_isSome]
  constructor
  · rintro ⟨x, hx, e⟩
    exact List.mem_map.mpr ⟨x, hx, by simpa using e⟩
  · intro h
    obtain ⟨x, hx, rfl⟩ := List.mem_map.mp h
    exact ⟨x, hx, by simp⟩
theorem look_ex {L : List (Int × Int)} {p : Int} (h : p ∈ L.map (·.1)) : ∃ d, look L p = some d := Option.isSome_iff_exists.mp (look_some.mpr h)
/-- a dict of how far -/
abbrev dkL (L : List (Int × Int)) : List (Key × D) := L.map fun x => (.inl x.1, .int x.2)
theorem val_dk (p : Int) : ∀ L : List (Int × Int), valA (dkL L) (.inl p) = (look L p).map D.int
  | [] => rfl
  | x :: r => by
    show valA ((Sum.inl x.1, D.int x.2) :: dkL r) (.inl p) = _
    rw [valA_cons, val_dk p r]
    unfold look
    rw [List.find?_cons]
    by_cases h : x.1 = p
    · simp [h]
    · have h' : ¬ ((Sum.inl x.1 : Key) = .inl p) := fun z => h (Sum.inl.inj z)
      simp [h, h']
theorem any_dk (p : Int) : ∀ L : List (Int × Int), ((dkL L).any fun kv => decide (kv.1 = .inl p)) = decide (p ∈ L.map (·.1))
  | [] => rfl
  | x :: r => by
    show (decide ((Sum.inl x.1 : Key) = .inl p) || _) = _
    rw [any_dk p r]
    by_cases h : x.1 = p
    · subst h; simp
    · have : p ≠ x.1 := fun z => h z.symm
      simp [h, this]
theorem put_dk {L : List (Int × Int)} {p d : Int} (h : p ∉ L.map (·.1)) : putA (dkL L) (.inl p) (.int d) = dkL (L ++ [(p, d)]) := by
  unfold putA
  rw [any_dk, if_neg (by simpa using h)]
  simp
/-! ### the way back -/
def pickS (A : List Stp) (L : List (Int × Int)) (p d : Int) : List Stp := (atS A p).filter fun s => decide (look L s.2.2 = some (d - 1))
def planL (A : List Stp) (L : List (Int × Int)) : Nat → Int → List Stp
  | 0, _ => []
  | d + 1, p => match pickS A L p ((d : Int) + 1) with
    | s :: _ => s :: planL A L d s.2.2
    | [] => []
theorem pickS_ok {A : List Stp} {s : Int} {n : Nat} {L : List (Int × Int)} (h : FarI A s n L) (sy : ∀ a w b, (a, w, b) ∈ A → (b, w, a) ∈ A) {p : Int} {d : Nat} (hp : (p, (d : Int) + 1) ∈ L) :
    ∃ t r, pickS A L p ((d : Int) + 1) = t :: r ∧ t ∈ A ∧ t.1 = p ∧ (t.2.2, (d : Int)) ∈ L := by
  rcases h.bk _ hp with z | ⟨_, y, hy, h1, w, h2⟩
  · cases z
  · have hm : (p, w, y.1) ∈ pickS A L p ((d : Int) + 1) := by
      unfold pickS
      rw [List.mem_filter]
      refine ⟨atS_mem.mpr ⟨sy _ _ _ h2, rfl⟩, ?_⟩
      have : look L y.1 = some y.2 := (look_mem h.nd).mpr hy
      simp only at h1
      simp only [this, decide_eq_true_eq, Option.some.injEq]
      omega
    cases e : pickS A L p ((d : Int) + 1) with
    | nil => rw [e] at hm; cases hm
    | cons t r =>
      have ht : t ∈ pickS A L p ((d : Int) + 1) := by rw [e]; exact List.mem_cons_self
      unfold pickS at ht
      rw [List.mem_filter] at ht
      obtain ⟨h3, h4⟩ := ht
      obtain ⟨h5, h6⟩ := atS_mem.mp h3
      refine ⟨t, r, rfl, h5, h6, (look_mem h.nd).mp ?_⟩
      have h4' : look L t.2.2 = some ((d : Int) + 1 - 1) := by simpa using h4
      rw [h4']
      congr 1
      omega
theorem FarI.zero {A : List Stp} {s : Int} {n : Nat} {L : List (Int × Int)} (h : FarI A s n L) {p d : Int} (hp : (p, d) ∈ L) : p = s ↔ d = 0 := by
  have h0 : (s, (0 : Int)) ∈ L := List.mem_of_getElem? h.hd
  constructor
  · rintro rfl
    have h1 := (look_mem h.nd).mpr hp
    have h2 := (look_mem h.nd).mpr h0
    rw [h1] at h2
    exact Option.some.inj h2
  · rintro rfl
    rcases h.bk _ hp with z | ⟨z, _⟩
    · cases z; rfl
    · exact absurd z (by simp)
/-- .. and what is come to is reached -/
abbrev eS (A : List Stp) : List (Int × Int) := A.map fun t => (t.1, t.2.2)
theorem FarI.reach {A : List Stp} {s : Int} {n : Nat} {L : List (Int × Int)} (h : FarI A s n L) {p : Int} : p ∈ L.map (·.1) ↔ Rch (eS A) s p := by
  constructor
  · intro hp
    obtain ⟨x, hx, rfl⟩ := List.mem_map.mp hp
    have key : ∀ (m : Nat) (x : Int × Int), x ∈ L → x.2.toNat = m → Rch (eS A) s x.1 := by
      intro m
      induction m with
      | zero =>
        intro x hx hm
        rcases h.bk x hx with z | ⟨z, _⟩
        · rw [z]; exact .here
        · have := h.nn x hx
          omega
      | succ m ih =>
        intro x hx hm
        rcases h.bk x hx with z | ⟨_, y, hy, h1, w, h2⟩
        · rw [z]; exact .here
        · have := h.nn y hy
          exact .step (ih y hy (by omega)) (List.mem_map.mpr ⟨_, h2, rfl⟩)
    exact key _ x hx rfl
  · intro hr
    refine hr.closed (P := fun p => p ∈ L.map (·.1)) (List.mem_map.mpr ⟨_, List.mem_of_getElem? h.hd, rfl⟩) fun a b ha hab => ?_
    obtain ⟨x, hx, rfl⟩ := List.mem_map.mp ha
    obtain ⟨t, ht, e⟩ := List.mem_map.mp hab
    have e1 : t.1 = x.1 := congrArg Prod.fst e
    have e2 : t.2.2 = b := congrArg Prod.snd e
    rw [← e2]
    exact h.cl x hx t ht e1
/-- the plan: each step begins where the one ahead ends -/
def goesTo : List Stp → Int → Int → Prop
  | [], a, b => a = b
  | s :: r, a, b => s.1 = a ∧ goesTo r s.2.2 b
theorem planL_ok {A : List Stp} {s : Int} {n : Nat} {L : List (Int × Int)} (h : FarI A s n L) (sy : ∀ a w b, (a, w, b) ∈ A → (b, w, a) ∈ A) : ∀ {d : Nat} {p : Int}, (p, (d : Int)) ∈ L → goesTo (planL A L d p) p s ∧ (∀ t ∈ planL A L d p, t ∈ A) ∧ (planL A L d p).length = d
  | 0, p, hp => ⟨(h.zero hp).mpr rfl, (fun _ z => nomatch z), rfl⟩
  | d + 1, p, hp => by
    obtain ⟨t, r, e, h1, h2, h3⟩ := pickS_ok h sy (d := d) (by simpa using hp)
    obtain ⟨g1, g2, g3⟩ := planL_ok h sy h3
    unfold planL
    rw [e]
    refine ⟨⟨h2, g1⟩, fun x hx => ?_, by simp [g3]⟩
    rcases List.mem_cons.mp hx with rfl | hx
    · exact h1
    · exact g2 x hx
end Qy
set_option Elab.async false
set_option linter.all false
set_option maxRecDepth 100000
set_option maxHeartbeats 1000000
namespace Lw
open PySem PySem.Spec PyProof.Rows L2 Qy ClX
def top (i : Nat) : Stmt := PySem.Challenge.pw_walksback_k32_plans_judged.main.body.getD i (.Pass ⟨0, 0, 0, 0⟩)
abbrev s_law_draw : Stmt := top 35
abbrev s_law_pick : Stmt := top 36
abbrev s_law_term : Stmt := top 37
abbrev s_law_asked : Stmt := top 40
abbrev s_law_terms : Stmt := top 38
abbrev s_law_scene : Stmt := top 43
abbrev s_law_far : Stmt := top 45
abbrev s_law_gone : Stmt := top 47
abbrev s_is_list : Stmt := top 15
abbrev s_sorted_words : Stmt := top 19
abbrev s_is_word : Stmt := top 16
abbrev s_is_kept_word : Stmt := top 30
abbrev s_Lot_init : Stmt := clsAt (top 32) 2
abbrev s_law_found : Stmt := top 41
abbrev s_law_links : Stmt := top 42
abbrev s_law_steps : Stmt := top 44
abbrev s_law_bent : Stmt := top 48
abbrev s_law_is_plan : Stmt := top 46
abbrev s_is_question : Stmt := top 17
abbrev s_want_question : Stmt := top 18
abbrev s_stands_at : Stmt := top 21
abbrev s_bridges_by : Stmt := top 22
abbrev s_bridges_of : Stmt := top 23
abbrev s_steps_of : Stmt := top 25
abbrev s_is_integer : Stmt := top 13
abbrev s_is_count : Stmt := top 14
abbrev s_is_step : Stmt := top 26
abbrev s_is_plan_of : Stmt := top 27
abbrev s_is_plan : Stmt := top 28
abbrev s_law_judged : Stmt := top 49
abbrev s_law_right : Stmt := top 50
abbrev s_law_pot : Stmt := top 34
abbrev s_law : Stmt := top 51
structure Env (K : PySem.W.Frag) (mg : Str → Option Value) : Prop where
  n_abs : mg "abs" = none
  n_all : mg "all" = none
  n_bool : mg "bool" = none
  n_divmod : mg "divmod" = none
  n_enumerate : mg "enumerate" = none
  n_int : mg "int" = none
  n_isinstance : mg "isinstance" = none
  n_len : mg "len" = none
  n_list : mg "list" = none
  n_max : mg "max" = none
  n_min : mg "min" = none
  n_range : mg "range" = none
  n_repr : mg "repr" = none
  n_sorted : mg "sorted" = none
  n_str : mg "str" = none
  n_tuple : mg "tuple" = none
  c_MOST_ASKED : ∃ t, mg "MOST_ASKED" = some (.int 24 t)
  c_SMALL : ∃ t, mg "SMALL" = some (.str "abcdefghijklmnopqrstuvwxyz" t)
  cls_Lot : Cls K (He.ga K "Lot")
  cr_Lot : CRead K (He.ga K "Lot") (.type "type")
  cv_Lot_MOST_LETTERS : ∃ u, CVal K (He.ga K "Lot") (.type "type") "MOST_LETTERS" (.int 12) u
  cv_Lot_MOST_WORDS : ∃ u, CVal K (He.ga K "Lot") (.type "type") "MOST_WORDS" (.int 10) u
  mk_Lot : MkE K mg "Lot"
  na_Lot_own_words : NoAttr K (He.ga K "Lot") "own_words"
section
variable {P : Program} {w : World} {K : PySem.W.Frag} {mg : Str → Option Value} {base : Heap}
abbrev N_law_draw : List Str := ["_law_pot_here", "_law_faces", "_law_digit"]
theorem sc_law_draw : FnScope N_law_draw ["_law_pot_here", "_law_faces"] (defScope s_law_draw) := ⟨rfl, rfl, rfl, by decide +kernel, rfl, by decide +kernel, by decide +kernel⟩
theorem bd_law_draw : BindT "_law_draw" s_law_draw ["_law_pot_here", "_law_faces"] := fun _ _ _ _ _ _ us hl => match us, hl with | [_, _], _ => rfl
noncomputable def F_law_draw : Fs := (fSeq (fIfS (fB (fBin gGt (fE (fBin gIx (fP 0) (fE (fC (.int 0))))) (fE (fC (.int 0))))) (fSeq (fAsg (fBin gDivmod (fE (fBin gIx (fP 0) (fE (fC (.int 0))))) (fP 1)) (gT 2 (gsCons (gSetI 0 (fC (.int 0))) (gsCons (gN 2) gsNil)))) (fRet (fMov 2))) fNext) (fSeq (fAsg (fBin gMod (fE (fUn gInt (fE (fBin gAdd (fE (fBin gMul (fE (fBin gIx (fP 0) (fE (fC (.int 1))))) (fE (fC (.int 39979))))) (fE (fC (.int 15107))))))) (fE (fC (.int 2147483543)))) (gSetI 0 (fC (.int 1)))) (fRet (fBin gMod (fE (fUn gInt (fE (fBin gDiv (fE (fBin gMod (fE (fUn gInt (fE (fBin gMul (fE (fBin gIx (fP 0) (fE (fC (.int 1))))) (fE (fBin gIx (fP 0) (fE (fC (.int 1))))))))) (fE (fC (.int 2147483563))))) (fE (fC (.int 13))))))) (fP 1)))))
noncomputable def m_law_draw : Mir := runM [true, false] N_law_draw F_law_draw
theorem ok_law_draw {f : Addr} {fd : FuncData} (E : Env K mg) (hm : mg "_law_draw" = some (.ref f)) (F : FunD K "_law_draw" "_law_draw" (defArgs s_law_draw) (defBody s_law_draw) (defScope s_law_draw) [] [] f fd) : Cal P w K mg base "_law_draw" s_law_draw 1 ["_law_pot_here", "_law_faces"] m_law_draw :=
  ⟨f, fd, hm, F, mk_run (k := 0) F sc_law_draw [true, false] F_law_draw fun cdv A outer s H EE pin gd hr hp => ⟨_, (sb_cons (ss_if (st_cmp op_gt rg_gt (SE.o (se_ix (K := K) (so_var 0) (SE.o (se_int)))) (SE.o (se_int)) (nomark _)) (sb_cons (ss_asg (se_b2 call_divmod rg_divmod E.n_divmod (by decide +kernel) (SE.o (se_ix (K := K) (so_var 0) (SE.o (se_int)))) (so_var 1)) (sg_tup (K := K) rfl (sgs_cons (sg_set (i := 0) (se_int)) (sgs_cons (sg_name sc_law_draw.nd (hp 2 (by decide))) sgs_nil)))) (sb_one (ss_ret (se_mov 2)))) sb_nil) (sb_cons (ss_asg (so_op op_mod rg_mod (SE.o (se_t1 call_int1 rg_int E.n_int (by decide +kernel) (SE.o (so_op op_addQ rg_addQ (SE.o (so_op op_mul rg_mul (SE.o (se_ix (K := K) (so_var 0) (SE.o (se_int)))) (SE.o (se_int)))) (SE.o (se_int)))))) (SE.o (se_int))) (sg_set (i := 0) (se_int))) (sb_one (ss_ret (so_op op_mod rg_mod (SE.o (se_t1 call_int1 rg_int E.n_int (by decide +kernel) (SE.o (so_op op_fdiv rg_div (SE.o (so_op op_mod rg_mod (SE.o (se_t1 call_int1 rg_int E.n_int (by decide +kernel) (SE.o (so_op op_mul rg_mul (SE.o (se_ix (K := K) (so_var 0) (SE.o (se_int)))) (SE.o (se_ix (K := K) (so_var 0) (SE.o (se_int)))))))) (SE.o (se_int)))) (SE.o (se_int)))))) (so_var 1))))))⟩⟩
abbrev N_law_pick : List Str := ["_law_pot_here", "_law_some"]
theorem sc_law_pick : FnScope N_law_pick ["_law_pot_here", "_law_some"] (defScope s_law_pick) := ⟨rfl, rfl, rfl, by decide +kernel, rfl, by decide +kernel, by decide +kernel⟩
theorem bd_law_pick : BindT "_law_pick" s_law_pick ["_law_pot_here", "_law_some"] := fun _ _ _ _ _ _ us hl => match us, hl with | [_, _], _ => rfl
noncomputable def F_law_pick : Fs := (fRet (fBin gIx (fE (fFz (fP 1))) (fE (fCall m_law_draw (fLend 0 (fCons (fUn gLen (fP 1)) fNil)) [some 0, none]))))
noncomputable def m_law_pick : Mir := runM [true, false] N_law_pick F_law_pick
theorem ok_law_pick {f : Addr} {fd : FuncData} (E : Env K mg) (c_law_draw : Cal P w K mg base "_law_draw" s_law_draw 1 ["_law_pot_here", "_law_faces"] m_law_draw) (hm : mg "_law_pick" = some (.ref f)) (F : FunD K "_law_pick" "_law_pick" (defArgs s_law_pick) (defBody s_law_pick) (defScope s_law_pick) [] [] f fd) : Cal P w K mg base "_law_pick" s_law_pick 2 ["_law_pot_here", "_law_some"] m_law_pick :=
  ⟨f, fd, hm, F, mk_run (k := 1) F sc_law_pick [true, false] F_law_pick fun cdv A outer s H EE pin gd hr hp => ⟨_, (sb_one (ss_ret (se_ix (K := K) (SE.o (SO.fz (so_var 1))) (SE.o (se_call (K := K) c_law_draw gd (hr.mono (by decide)) bd_law_draw (sb0_lend 0 (sb0_cons (se_b1 (r := rLenQ K) call_lenQ rg_len E.n_len PySem.boot_len (so_var 1)) sb0_nil)) (len_lend (len_cons len_nil)))))))⟩⟩
abbrev N_law_term : List Str := ["_law_pot_here", "_law_signs", "_law_most", "_law_turn"]
theorem sc_law_term : FnScope N_law_term ["_law_pot_here", "_law_signs", "_law_most"] (defScope s_law_term) := ⟨rfl, rfl, rfl, by decide +kernel, rfl, by decide +kernel, by decide +kernel⟩
theorem bd_law_term : BindT "_law_term" s_law_term ["_law_pot_here", "_law_signs", "_law_most"] := fun _ _ _ _ _ _ us hl => match us, hl with | [_, _, _], _ => rfl
noncomputable def F_law_term : Fs := (fRet (fBin gJoin (fE (fC (.str ""))) (fE (fLc [3] (fItR1 (fCons (fBin gAdd (fE (fC (.int 1))) (fE (fCall m_law_draw (fLend 0 (fCons (fFz (fP 2)) fNil)) [some 0, none]))) fNil)) (gN 3) fYes (fFz (fE (fCall m_law_pick (fLend 0 (fCons (fFz (fP 1)) fNil)) [some 0, none])))))))
noncomputable def m_law_term : Mir := runM [true, false, false] N_law_term F_law_term
theorem ok_law_term {f : Addr} {fd : FuncData} (E : Env K mg) (c_law_draw : Cal P w K mg base "_law_draw" s_law_draw 1 ["_law_pot_here", "_law_faces"] m_law_draw) (c_law_pick : Cal P w K mg base "_law_pick" s_law_pick 2 ["_law_pot_here", "_law_some"] m_law_pick) (hm : mg "_law_term" = some (.ref f)) (F : FunD K "_law_term" "_law_term" (defArgs s_law_term) (defBody s_law_term) (defScope s_law_term) [] [] f fd) : Cal P w K mg base "_law_term" s_law_term 3 ["_law_pot_here", "_law_signs", "_law_most"] m_law_term :=
  ⟨f, fd, hm, F, mk_run (k := 2) F sc_law_term [true, false, false] F_law_term fun cdv A outer s H EE pin gd hr hp => ⟨_, (sb_one (ss_ret (se_join (K := K) (SE.o (se_str)) (SE.o (se_lc (own := [("_law_turn", 3)]) rfl sc_law_term.nd (si_rng1 E.n_range (sa_cons (so_op op_addQ rg_addQ (SE.o (se_int)) (SE.o (se_call (K := K) c_law_draw gd (hr.mono (by decide)) bd_law_draw (sb0_lend 0 (sb0_cons (SO.fz (so_var 2)) sb0_nil)) (len_lend (len_cons len_nil))))) sa_nil)) (blkOk_by (N := N_law_term) (sc := defScope s_law_term) (own := [("_law_turn", 3)]) (by decide +kernel)) (fun i hi => hp i (by revert i; decide)) (by decide) (fun _ _ _ _ _ => (sg_name sc_law_term.nd (hp 3 (by decide)))) (fun _ _ _ _ _ => stl_nil) (fun _ _ _ _ _ => SO.fz (SE.o (se_call (K := K) c_law_pick gd (hr.mono (by decide)) bd_law_pick (sb0_lend 0 (sb0_cons (SO.fz (so_var 1)) sb0_nil)) (len_lend (len_cons len_nil))))))))))⟩⟩
abbrev N_law_asked : List Str := ["_law_pot_here", "_law_terms_here", "_law_signs", "_law_most", "_law_found_here", "_law_turn", "_law_more"]
theorem sc_law_asked : FnScope N_law_asked ["_law_pot_here", "_law_terms_here", "_law_signs", "_law_most"] (defScope s_law_asked) := ⟨rfl, rfl, rfl, by decide +kernel, rfl, by decide +kernel, by decide +kernel⟩
theorem bd_law_asked : BindT "_law_asked" s_law_asked ["_law_pot_here", "_law_terms_here", "_law_signs", "_law_most"] := fun _ _ _ _ _ _ us hl => match us, hl with | [_, _, _, _], _ => rfl
noncomputable def F_law_asked : Fs := (fSeq (fAsg (fC (.str "")) (gN 4)) (fSeq (fFor (fItR1 (fCons (fBin gAdd (fE (fC (.int 1))) (fE (fCall m_law_draw (fLend 0 (fCons (fC (.int 6)) fNil)) [some 0, none]))) fNil)) (gN 5) (fSeq (fAsg (fIf (fAnd (fB (fBin gNe (fP 1) (fE (fLst fNil)))) (fB (fBin gGt (fE (fCall m_law_draw (fLend 0 (fCons (fC (.int 4)) fNil)) [some 0, none])) (fE (fC (.int 0)))))) (fCall m_law_pick (fLend 0 (fCons (fFz (fP 1)) fNil)) [some 0, none]) (fCall m_law_term (fLend 0 (fCons (fFz (fP 2)) (fCons (fC (.int 2)) fNil))) [some 0, none, none])) (gN 6)) (fAsg (fBin gAdd (fP 4) (fE (fSl (fE (fFz (fP 6))) (fPart (fBin gMul (fE (fCall m_law_draw (fLend 0 (fCons (fC (.int 2)) fNil)) [some 0, none])) (fE (fCall m_law_draw (fLend 0 (fCons (fUn gLen (fP 6)) fNil)) [some 0, none])))) fNoPart))) (gN 4)))) (fRet (fIf (fB (fBin gNe (fP 4) (fE (fC (.str ""))))) (fSl (fP 4) fNoPart (fPart (fFz (fP 3)))) (fCall m_law_term (fLend 0 (fCons (fFz (fP 2)) (fCons (fC (.int 3)) fNil))) [some 0, none, none])))))
noncomputable def m_law_asked : Mir := runM [true, false, false, false] N_law_asked F_law_asked
theorem ok_law_asked {f : Addr} {fd : FuncData} (E : Env K mg) (c_law_term : Cal P w K mg base "_law_term" s_law_term 3 ["_law_pot_here", "_law_signs", "_law_most"] m_law_term) (c_law_draw : Cal P w K mg base "_law_draw" s_law_draw 1 ["_law_pot_here", "_law_faces"] m_law_draw) (c_law_pick : Cal P w K mg base "_law_pick" s_law_pick 2 ["_law_pot_here", "_law_some"] m_law_pick) (hm : mg "_law_asked" = some (.ref f)) (F : FunD K "_law_asked" "_law_asked" (defArgs s_law_asked) (defBody s_law_asked) (defScope s_law_asked) [] [] f fd) : Cal P w K mg base "_law_asked" s_law_asked 4 ["_law_pot_here", "_law_terms_here", "_law_signs", "_law_most"] m_law_asked :=
  ⟨f, fd, hm, F, mk_run (k := 3) F sc_law_asked [true, false, false, false] F_law_asked fun cdv A outer s H EE pin gd hr hp => ⟨_, (sb_cons (ss_set sc_law_asked.nd (hp 4 (by decide)) (se_str)) (sb_cons (ss_for PassesOwn.never rfl (si_rng1 E.n_range (sa_cons (so_op op_addQ rg_addQ (SE.o (se_int)) (SE.o (se_call (K := K) c_law_draw gd (hr.mono (by decide)) bd_law_draw (sb0_lend 0 (sb0_cons (se_int) sb0_nil)) (len_lend (len_cons len_nil))))) sa_nil)) (sg_name sc_law_asked.nd (hp 5 (by decide))) (sb_cons (ss_set sc_law_asked.nd (hp 6 (by decide)) (se_if (SW.st (sw_and (st_cmp (r := rNeD K) (op_neD (u64 hr)) rg_ne (so_var 1) (SE.o (se_list sa_nil)) (nomark _)) (sw_and1 (st_cmp op_gt rg_gt (SE.o (se_call (K := K) c_law_draw gd (hr.mono (by decide)) bd_law_draw (sb0_lend 0 (sb0_cons (se_int) sb0_nil)) (len_lend (len_cons len_nil)))) (SE.o (se_int)) (nomark _))))) (se_call (K := K) c_law_pick gd (hr.mono (by decide)) bd_law_pick (sb0_lend 0 (sb0_cons (SO.fz (so_var 1)) sb0_nil)) (len_lend (len_cons len_nil))) (se_call (K := K) c_law_term gd (hr.mono (by decide)) bd_law_term (sb0_lend 0 (sb0_cons (SO.fz (so_var 2)) (sb0_cons (se_int) sb0_nil))) (len_lend (len_cons (len_cons len_nil)))))) (sb_one (ss_set sc_law_asked.nd (hp 4 (by decide)) (so_op op_addQ rg_addQ (so_var 4) (SE.o (se_sl (K := K) (SE.o (SO.fz (so_var 6))) (sp_some (so_op op_mul rg_mul (SE.o (se_call (K := K) c_law_draw gd (hr.mono (by decide)) bd_law_draw (sb0_lend 0 (sb0_cons (se_int) sb0_nil)) (len_lend (len_cons len_nil)))) (SE.o (se_call (K := K) c_law_draw gd (hr.mono (by decide)) bd_law_draw (sb0_lend 0 (sb0_cons (se_b1 (r := rLenQ K) call_lenQ rg_len E.n_len PySem.boot_len (so_var 6)) sb0_nil)) (len_lend (len_cons len_nil)))))) sp_none))))))) (sb_one (ss_ret (se_if (st_cmp (r := rNeD K) (op_neD (u64 hr)) rg_ne (so_var 4) (SE.o (se_str)) (nomark _)) (se_sl (K := K) (so_var 4) sp_none (sp_some (SO.fz (so_var 3)))) (se_call (K := K) c_law_term gd (hr.mono (by decide)) bd_law_term (sb0_lend 0 (sb0_cons (SO.fz (so_var 2)) (sb0_cons (se_int) sb0_nil))) (len_lend (len_cons (len_cons len_nil)))))))))⟩⟩
abbrev N_law_terms : List Str := ["_law_pot_here", "_law_signs", "_law_many", "_law_most", "_law_found_here", "_law_turn", "_law_term_here"]
theorem sc_law_terms : FnScope N_law_terms ["_law_pot_here", "_law_signs", "_law_many", "_law_most"] (defScope s_law_terms) := ⟨rfl, rfl, rfl, by decide +kernel, rfl, by decide +kernel, by decide +kernel⟩
theorem bd_law_terms : BindT "_law_terms" s_law_terms ["_law_pot_here", "_law_signs", "_law_many", "_law_most"] := fun _ _ _ _ _ _ us hl => match us, hl with | [_, _, _, _], _ => rfl
noncomputable def F_law_terms : Fs := (fSeq (fAsg (fLst fNil) (gN 4)) (fSeq (fFor (fItR1 (fCons (fFz (fP 2)) fNil)) (gN 5) (fSeq (fAsg (fCall m_law_term (fLend 0 (fCons (fFz (fP 1)) (fCons (fFz (fP 3)) fNil))) [some 0, none, none]) (gN 6)) (fX (fExtend 4 (fIf (fB (fBin gNotInQ (fP 6) (fP 4))) (fLst (fCons (fFz (fP 6)) fNil)) (fLst fNil)))))) (fRet (fMov 4))))
noncomputable def m_law_terms : Mir := runM [true, false, false, false] N_law_terms F_law_terms
theorem ok_law_terms {f : Addr} {fd : FuncData} (E : Env K mg) (c_law_term : Cal P w K mg base "_law_term" s_law_term 3 ["_law_pot_here", "_law_signs", "_law_most"] m_law_term) (hm : mg "_law_terms" = some (.ref f)) (F : FunD K "_law_terms" "_law_terms" (defArgs s_law_terms) (defBody s_law_terms) (defScope s_law_terms) [] [] f fd) : Cal P w K mg base "_law_terms" s_law_terms 4 ["_law_pot_here", "_law_signs", "_law_many", "_law_most"] m_law_terms :=
  ⟨f, fd, hm, F, mk_run (k := 3) F sc_law_terms [true, false, false, false] F_law_terms fun cdv A outer s H EE pin gd hr hp => ⟨_, (sb_cons (ss_set sc_law_terms.nd (hp 4 (by decide)) (se_list sa_nil)) (sb_cons (ss_for PassesOwn.never rfl (si_rng1 E.n_range (sa_cons (SO.fz (so_var 2)) sa_nil)) (sg_name sc_law_terms.nd (hp 5 (by decide))) (sb_cons (ss_set sc_law_terms.nd (hp 6 (by decide)) (se_call (K := K) c_law_term gd (hr.mono (by decide)) bd_law_term (sb0_lend 0 (sb0_cons (SO.fz (so_var 1)) (sb0_cons (SO.fz (so_var 3)) sb0_nil))) (len_lend (len_cons (len_cons len_nil))))) (sb_one (ss_expr (se_extend (i := 4) (se_if (st_cmp (r := rNotInQ K) (op_notInQ (u65 hr)) rg_notInQ (so_var 6) (so_var 4) (by rfl)) (se_list (sa_cons (SO.fz (so_var 6)) sa_nil)) (se_list sa_nil))))))) (sb_one (ss_ret (se_mov 4)))))⟩⟩
abbrev N_law_scene : List Str := ["_law_pot_here", "_law_signs", "_law_terms_here", "_law_asked_here"]
theorem sc_law_scene : FnScope N_law_scene ["_law_pot_here"] (defScope s_law_scene) := ⟨rfl, rfl, rfl, by decide +kernel, rfl, by decide +kernel, by decide +kernel⟩
theorem bd_law_scene : BindT "_law_scene" s_law_scene ["_law_pot_here"] := fun _ _ _ _ _ _ us hl => match us, hl with | [_], _ => rfl
noncomputable def F_law_scene : Fs := (fSeq (fAsg (fCall m_law_pick (fLend 0 (fCons (fFz (fE (fLst (fCons (fC (.str "a")) (fCons (fC (.str "ab")) (fCons (fC (.str "ab")) (fCons (fC (.str "abc")) (fCons (fC (.str "abcd")) fNil)))))))) fNil)) [some 0, none]) (gN 1)) (fSeq (fAsg (fSl (fE (fCall m_law_terms (fLend 0 (fCons (fFz (fP 1)) (fCons (fFz (fE (fCall m_law_pick (fLend 0 (fCons (fFz (fE (fLst (fCons (fC (.int 0)) (fCons (fC (.int 2)) (fCons (fC (.int 4)) (fCons (fC (.int 7)) (fCons (fC (.int 14)) fNil)))))))) fNil)) [some 0, none]))) (fCons (fFz (fE (fCall m_law_pick (fLend 0 (fCons (fFz (fE (fLst (fCons (fC (.int 2)) (fCons (fC (.int 3)) (fCons (fC (.int 4)) (fCons (fC (.int 12)) fNil))))))) fNil)) [some 0, none]))) fNil)))) [some 0, none, none, none])) fNoPart (fPart (fC (.int 10)))) (gN 2)) (fSeq (fAsg (fCall m_law_asked (fLend 0 (fCons (fFz (fP 2)) (fCons (fFz (fE (fBin gAdd (fP 1) (fE (fCall m_law_pick (fLend 0 (fCons (fFz (fE (fLst (fCons (fC (.str "")) (fCons (fC (.str "")) (fCons (fC (.str "")) (fCons (fC (.str "y")) fNil))))))) fNil)) [some 0, none]))))) (fCons (fFz (fE (fCall m_law_pick (fLend 0 (fCons (fFz (fE (fLst (fCons (fC (.int 2)) (fCons (fC (.int 5)) (fCons (fC (.int 9)) (fCons (fC (.int 24)) fNil))))))) fNil)) [some 0, none]))) fNil)))) [some 0, none, none, none]) (gN 3)) (fRet (fTup (fCons (fFz (fP 2)) (fCons (fFz (fP 3)) fNil)))))))
noncomputable def m_law_scene : Mir := runM [true] N_law_scene F_law_scene
theorem ok_law_scene {f : Addr} {fd : FuncData} (E : Env K mg) (c_law_asked : Cal P w K mg base "_law_asked" s_law_asked 4 ["_law_pot_here", "_law_terms_here", "_law_signs", "_law_most"] m_law_asked) (c_law_pick : Cal P w K mg base "_law_pick" s_law_pick 2 ["_law_pot_here", "_law_some"] m_law_pick) (c_law_terms : Cal P w K mg base "_law_terms" s_law_terms 4 ["_law_pot_here", "_law_signs", "_law_many", "_law_most"] m_law_terms) (hm : mg "_law_scene" = some (.ref f)) (F : FunD K "_law_scene" "_law_scene" (defArgs s_law_scene) (defBody s_law_scene) (defScope s_law_scene) [] [] f fd) : Cal P w K mg base "_law_scene" s_law_scene 5 ["_law_pot_here"] m_law_scene :=
  ⟨f, fd, hm, F, mk_run (k := 4) F sc_law_scene [true] F_law_scene fun cdv A outer s H EE pin gd hr hp => ⟨_, (sb_cons (ss_set sc_law_scene.nd (hp 1 (by decide)) (se_call (K := K) c_law_pick gd (hr.mono (by decide)) bd_law_pick (sb0_lend 0 (sb0_cons (SO.fz (SE.o (se_list (sa_cons (se_str) (sa_cons (se_str) (sa_cons (se_str) (sa_cons (se_str) (sa_cons (se_str) sa_nil)))))))) sb0_nil)) (len_lend (len_cons len_nil)))) (sb_cons (ss_set sc_law_scene.nd (hp 2 (by decide)) (se_sl (K := K) (SE.o (se_call (K := K) c_law_terms gd (hr.mono (by decide)) bd_law_terms (sb0_lend 0 (sb0_cons (SO.fz (so_var 1)) (sb0_cons (SO.fz (SE.o (se_call (K := K) c_law_pick gd (hr.mono (by decide)) bd_law_pick (sb0_lend 0 (sb0_cons (SO.fz (SE.o (se_list (sa_cons (se_int) (sa_cons (se_int) (sa_cons (se_int) (sa_cons (se_int) (sa_cons (se_int) sa_nil)))))))) sb0_nil)) (len_lend (len_cons len_nil))))) (sb0_cons (SO.fz (SE.o (se_call (K := K) c_law_pick gd (hr.mono (by decide)) bd_law_pick (sb0_lend 0 (sb0_cons (SO.fz (SE.o (se_list (sa_cons (se_int) (sa_cons (se_int) (sa_cons (se_int) (sa_cons (se_int) sa_nil))))))) sb0_nil)) (len_lend (len_cons len_nil))))) sb0_nil)))) (len_lend (len_cons (len_cons (len_cons len_nil)))))) sp_none (sp_some (se_int)))) (sb_cons (ss_set sc_law_scene.nd (hp 3 (by decide)) (se_call (K := K) c_law_asked gd (hr.mono (by decide)) bd_law_asked (sb0_lend 0 (sb0_cons (SO.fz (so_var 2)) (sb0_cons (SO.fz (SE.o (so_op op_addQ rg_addQ (so_var 1) (SE.o (se_call (K := K) c_law_pick gd (hr.mono (by decide)) bd_law_pick (sb0_lend 0 (sb0_cons (SO.fz (SE.o (se_list (sa_cons (se_str) (sa_cons (se_str) (sa_cons (se_str) (sa_cons (se_str) sa_nil))))))) sb0_nil)) (len_lend (len_cons len_nil))))))) (sb0_cons (SO.fz (SE.o (se_call (K := K) c_law_pick gd (hr.mono (by decide)) bd_law_pick (sb0_lend 0 (sb0_cons (SO.fz (SE.o (se_list (sa_cons (se_int) (sa_cons (se_int) (sa_cons (se_int) (sa_cons (se_int) sa_nil))))))) sb0_nil)) (len_lend (len_cons len_nil))))) sb0_nil)))) (len_lend (len_cons (len_cons (len_cons len_nil)))))) (sb_one (ss_ret (se_tup (sa_cons (SO.fz (so_var 2)) (sa_cons (SO.fz (so_var 3)) sa_nil))))))))⟩⟩
abbrev N_law_far : List Str := ["_law_steps_all", "_law_spot", "_law_far_here", "_law_waiting", "_law_at", "_law_step"]
theorem sc_law_far : FnScope N_law_far ["_law_steps_all", "_law_spot"] (defScope s_law_far) := ⟨rfl, rfl, rfl, by decide +kernel, rfl, by decide +kernel, by decide +kernel⟩
theorem bd_law_far : BindT "_law_far" s_law_far ["_law_steps_all", "_law_spot"] := fun _ _ _ _ _ _ us hl => match us, hl with | [_, _], _ => rfl
noncomputable def F_law_far : Fs := (fSeq (fPar (fCons (fD1 (fFz (fP 1)) (fC (.int 0))) (fCons (fLst (fCons (fFz (fP 1)) fNil)) (fCons (fC (.int 0)) fNil))) (gs3 2 3 4)) (fSeq (fun ρ => loopW (fAnd (fB (fBin gLt (fP 4) (fE (fUn gLen (fP 3))))) (fB (fBin gLt (fP 4) (fE (fC (.int 30)))))) (fSeq (fFor (fItS (fFz (fP 0))) (gN 5) (fIfS (fAnd (fB (fBin gEq (fE (fBin gIx (fP 5) (fE (fC (.int 0))))) (fE (fBin gIx (fP 3) (fP 4))))) (fB (fBin (gDIn true) (fE (fBin gIx (fP 5) (fE (fC (.int 2))))) (fP 2)))) (fSeq (fAsg (fBin gAdd (fE (fBin gDGet (fP 2) (fE (fBin gIx (fP 5) (fE (fC (.int 0))))))) (fE (fC (.int 1)))) (gSetQ 2 (fBin gIx (fP 5) (fE (fC (.int 2)))))) (fX (fAppend 3 (fBin gIx (fP 5) (fE (fC (.int 2))))))) fNext)) (fAsg (fBin gAdd (fP 4) (fE (fC (.int 1)))) (gN 4))) 1000000 ρ) (fRet (fMov 2))))
noncomputable def m_law_far : Mir := runM [false, false] N_law_far F_law_far
theorem ok_law_far {f : Addr} {fd : FuncData} (E : Env K mg) (hm : mg "_law_far" = some (.ref f)) (F : FunD K "_law_far" "_law_far" (defArgs s_law_far) (defBody s_law_far) (defScope s_law_far) [] [] f fd) : Cal P w K mg base "_law_far" s_law_far 1 ["_law_steps_all", "_law_spot"] m_law_far :=
  ⟨f, fd, hm, F, mk_run (k := 0) F sc_law_far [false, false] F_law_far fun cdv A outer s H EE pin gd hr hp => ⟨_, (sb_cons (ss_par3 (i := 2) (j := 3) (l := 4) rfl sc_law_far.nd (hp 2 (by decide)) (hp 3 (by decide)) (hp 4 (by decide)) (by decide) (by decide) (by decide) (sa_cons (se_d1 (SO.fz (so_var 1)) (se_int)) (sa_cons (se_list (sa_cons (SO.fz (so_var 1)) sa_nil)) (sa_cons (se_int) sa_nil)))) (sb_cons (ss_while 1000000 PassesOwn.never (SW.st (sw_and (st_cmp (r := rLtQ K) (op_ltQ (u0 hr)) rg_ltQ (so_var 4) (SE.o (se_b1 (r := rLenQ K) call_lenQ rg_len E.n_len PySem.boot_len (so_var 3))) (nomark _)) (sw_and1 (st_cmp (r := rLtQ K) (op_ltQ (u0 hr)) rg_ltQ (so_var 4) (SE.o (se_int)) (nomark _))))) (sb_cons (ss_for PassesOwn.never rfl (si_seq (K := K) (SO.fz (so_var 0))) (sg_name sc_law_far.nd (hp 5 (by decide))) (sb_one (ss_if (SW.st (sw_and (st_cmp (r := rEqD K) (op_eqD (u64 hr)) rg_eq (SE.o (se_ix (K := K) (so_var 5) (SE.o (se_int)))) (SE.o (se_ix (K := K) (so_var 3) (so_var 4))) (nomark _)) (sw_and1 (st_cmp (r := rDIn true) (op_dnotin (u1 hr)) rg_din (SE.o (se_ix (K := K) (so_var 5) (SE.o (se_int)))) (so_var 2) (by rfl))))) (sb_cons (ss_asg (so_op op_addQ rg_addQ (SE.o (se_dgetQ (u1 hr) (so_var 2) (SE.o (se_ix (K := K) (so_var 5) (SE.o (se_int)))))) (SE.o (se_int))) (sg_setQ (u1 hr) (i := 2) (se_ix (K := K) (so_var 5) (SE.o (se_int))))) (sb_one (ss_expr (se_append (i := 3) (se_ix (K := K) (so_var 5) (SE.o (se_int))))))) sb_nil))) (sb_one (ss_set sc_law_far.nd (hp 4 (by decide)) (so_op op_addQ rg_addQ (so_var 4) (SE.o (se_int))))))) (sb_one (ss_ret (se_mov 2)))))⟩⟩
abbrev N_law_gone : List Str := ["_law_pot_here", "_law_steps_all", "_law_last", "_law_here", "_law_found_here", "_law_far_here", "_law_turn", "_law_some", "_law_step"]
theorem sc_law_gone : FnScope N_law_gone ["_law_pot_here", "_law_steps_all", "_law_last"] (defScope s_law_gone) := ⟨rfl, rfl, rfl, by decide +kernel, rfl, by decide +kernel, by decide +kernel⟩
theorem bd_law_gone : BindT "_law_gone" s_law_gone ["_law_pot_here", "_law_steps_all", "_law_last"] := fun _ _ _ _ _ _ us hl => match us, hl with | [_, _, _], _ => rfl
noncomputable def F_law_gone : Fs := (fSeq (fPar (fCons (fC (.int 0)) (fCons (fLst fNil) (fCons (fCall m_law_far (fCons (fFz (fP 1)) (fCons (fFz (fP 2)) fNil)) [none, none]) fNil))) (gsCons (gN 3) (gsCons (gN 4) (gsCons (gN 5) gsNil)))) (fSeq (fFor (fItR1 (fCons (fCall m_law_draw (fLend 0 (fCons (fC (.int 7)) fNil)) [some 0, none]) fNil)) (gN 6) (fSeq (fAsg (fLc [8] (fItS (fFz (fP 1))) (gN 8) (fB (fBin gEq (fE (fBin gIx (fP 8) (fE (fC (.int 0))))) (fP 3))) (fFz (fP 8))) (gN 7)) (fIfS (fB (fBin gNe (fP 7) (fE (fLst fNil)))) (fSeq (fX (fAppend 4 (fFz (fE (fCall m_law_pick (fLend 0 (fCons (fFz (fP 7)) fNil)) [some 0, none]))))) (fAsg (fBin gIx (fE (fBin gIx (fP 4) (fE (fUn gNeg (fE (fC (.int 1))))))) (fE (fC (.int 2)))) (gN 3))) fNext))) (fSeq (fFor (fItR1 (fCons (fGet2 (fP 5) (fFz (fP 3)) (fC (.int 0))) fNil)) (gN 6) (fSeq (fAsg (fLc [8] (fItS (fFz (fP 1))) (gN 8) (fAnd (fB (fBin gEq (fE (fBin gIx (fP 8) (fE (fC (.int 0))))) (fP 3))) (fB (fBin gEq (fE (fGet1 (fP 5) (fBin gIx (fP 8) (fE (fC (.int 2)))))) (fE (fBin gSubI (fE (fBin gDGet (fP 5) (fP 3))) (fE (fC (.int 1)))))))) (fFz (fP 8))) (gN 7)) (fSeq (fX (fAppend 4 (fFz (fE (fCall m_law_pick (fLend 0 (fCons (fFz (fP 7)) fNil)) [some 0, none]))))) (fAsg (fBin gIx (fE (fBin gIx (fP 4) (fE (fUn gNeg (fE (fC (.int 1))))))) (fE (fC (.int 2)))) (gN 3))))) (fRet (fMov 4)))))
noncomputable def m_law_gone : Mir := runM [true, false, false] N_law_gone F_law_gone
theorem ok_law_gone {f : Addr} {fd : FuncData} (E : Env K mg) (c_law_pick : Cal P w K mg base "_law_pick" s_law_pick 2 ["_law_pot_here", "_law_some"] m_law_pick) (c_law_draw : Cal P w K mg base "_law_draw" s_law_draw 1 ["_law_pot_here", "_law_faces"] m_law_draw) (c_law_far : Cal P w K mg base "_law_far" s_law_far 1 ["_law_steps_all", "_law_spot"] m_law_far) (hm : mg "_law_gone" = some (.ref f)) (F : FunD K "_law_gone" "_law_gone" (defArgs s_law_gone) (defBody s_law_gone) (defScope s_law_gone) [] [] f fd) : Cal P w K mg base "_law_gone" s_law_gone 3 ["_law_pot_here", "_law_steps_all", "_law_last"] m_law_gone :=
  ⟨f, fd, hm, F, mk_run (k := 2) F sc_law_gone [true, false, false] F_law_gone fun cdv A outer s H EE pin gd hr hp => ⟨_, (sb_cons (ss_parT rfl (sa_cons (se_int) (sa_cons (se_list sa_nil) (sa_cons (se_call (K := K) c_law_far gd (hr.mono (by decide)) bd_law_far (sb0_cons (SO.fz (so_var 1)) (sb0_cons (SO.fz (so_var 2)) sb0_nil)) (len_cons (len_cons len_nil))) sa_nil))) (sgs_cons (sg_name sc_law_gone.nd (hp 3 (by decide))) (sgs_cons (sg_name sc_law_gone.nd (hp 4 (by decide))) (sgs_cons (sg_name sc_law_gone.nd (hp 5 (by decide))) sgs_nil))) (len_cons (len_cons (len_cons len_nil))) (by decide)) (sb_cons (ss_for PassesOwn.never rfl (si_rng1 E.n_range (sa_cons (se_call (K := K) c_law_draw gd (hr.mono (by decide)) bd_law_draw (sb0_lend 0 (sb0_cons (se_int) sb0_nil)) (len_lend (len_cons len_nil))) sa_nil)) (sg_name sc_law_gone.nd (hp 6 (by decide))) (sb_cons (ss_setLc (own := [("_law_step", 8)]) rfl sc_law_gone.nd (hp 7 (by decide)) (si_seq (K := K) (SO.fz (so_var 1))) (blkOk_by (N := N_law_gone) (sc := defScope s_law_gone) (own := [("_law_step", 8)]) (by decide +kernel)) (fun i hi => hp i (by revert i; decide)) (by decide) (fun _ _ _ _ _ => (sg_name sc_law_gone.nd (hp 8 (by decide)))) (fun _ _ _ _ _ => (stl_one (st_cmp (r := rEqD K) (op_eqD (u64 hr)) rg_eq (SE.o (se_ix (K := K) (so_var 8) (SE.o (se_int)))) (so_var 3) (nomark _)))) (fun _ _ _ _ _ => SO.fz (so_var 8))) (sb_one (ss_if (st_cmp (r := rNeD K) (op_neD (u64 hr)) rg_ne (so_var 7) (SE.o (se_list sa_nil)) (nomark _)) (sb_cons (ss_expr (se_append (i := 4) (SO.fz (SE.o (se_call (K := K) c_law_pick gd (hr.mono (by decide)) bd_law_pick (sb0_lend 0 (sb0_cons (SO.fz (so_var 7)) sb0_nil)) (len_lend (len_cons len_nil))))))) (sb_one (ss_set sc_law_gone.nd (hp 3 (by decide)) (se_ix (K := K) (SE.o (se_ix (K := K) (so_var 4) (SE.o (so_un un_neg rg_neg (SE.o (se_int)))))) (SE.o (se_int)))))) sb_nil)))) (sb_cons (ss_for PassesOwn.never rfl (si_rng1 E.n_range (sa_cons (se_get2 (u1 hr) (so_var 5) (SO.fz (so_var 3)) (se_int)) sa_nil)) (sg_name sc_law_gone.nd (hp 6 (by decide))) (sb_cons (ss_setLc (own := [("_law_step", 8)]) rfl sc_law_gone.nd (hp 7 (by decide)) (si_seq (K := K) (SO.fz (so_var 1))) (blkOk_by (N := N_law_gone) (sc := defScope s_law_gone) (own := [("_law_step", 8)]) (by decide +kernel)) (fun i hi => hp i (by revert i; decide)) (by decide) (fun _ _ _ _ _ => (sg_name sc_law_gone.nd (hp 8 (by decide)))) (fun _ _ _ _ _ => (stl_one (SW.st (sw_and (st_cmp (r := rEqD K) (op_eqD (u64 hr)) rg_eq (SE.o (se_ix (K := K) (so_var 8) (SE.o (se_int)))) (so_var 3) (nomark _)) (sw_and1 (st_cmp (r := rEqD K) (op_eqD (u64 hr)) rg_eq (SE.o (se_get1 (u1 hr) (so_var 5) (se_ix (K := K) (so_var 8) (SE.o (se_int))))) (SE.o (so_op op_sub rg_sub (SE.o (se_dgetQ (u1 hr) (so_var 5) (so_var 3))) (SE.o (se_int)))) (nomark _))))))) (fun _ _ _ _ _ => SO.fz (so_var 8))) (sb_cons (ss_expr (se_append (i := 4) (SO.fz (SE.o (se_call (K := K) c_law_pick gd (hr.mono (by decide)) bd_law_pick (sb0_lend 0 (sb0_cons (SO.fz (so_var 7)) sb0_nil)) (len_lend (len_cons len_nil))))))) (sb_one (ss_set sc_law_gone.nd (hp 3 (by decide)) (se_ix (K := K) (SE.o (se_ix (K := K) (so_var 4) (SE.o (so_un un_neg rg_neg (SE.o (se_int)))))) (SE.o (se_int)))))))) (sb_one (ss_ret (se_mov 4))))))⟩⟩
abbrev N_is_list : List Str := ["value"]
theorem sc_is_list : FnScope N_is_list ["value"] (defScope s_is_list) := ⟨rfl, rfl, rfl, by decide +kernel, rfl, by decide +kernel, by decide +kernel⟩
theorem bd_is_list : BindT "is_list" s_is_list ["value"] := fun _ _ _ _ _ _ us hl => match us, hl with | [_], _ => rfl
noncomputable def F_is_list : Fs := (fRet (fBin gIsi2K (fP 0) (fE (fTup (fCons (fC (.raw (.ty "list"))) (fCons (fC (.raw (.ty "tuple"))) fNil))))))
noncomputable def m_is_list : Mir := runM [false] N_is_list F_is_list
theorem ok_is_list {f : Addr} {fd : FuncData} (E : Env K mg) (hm : mg "is_list" = some (.ref f)) (F : FunD K "is_list" "is_list" (defArgs s_is_list) (defBody s_is_list) (defScope s_is_list) [] [] f fd) : Cal P w K mg base "is_list" s_is_list 1 ["value"] m_is_list :=
  ⟨f, fd, hm, F, mk_run (k := 0) F sc_is_list [false] F_is_list fun cdv A outer s H EE pin gd hr hp => ⟨_, (sb_one (ss_ret (se_b2 (r := rIsiT K) call_isiT rg_isi2K E.n_isinstance (by decide +kernel) (so_var 0) (SE.o (se_tup (sa_cons (se_ty (n := "list") E.n_list (by decide +kernel)) (sa_cons (se_ty (n := "tuple") E.n_tuple (by decide +kernel)) sa_nil)))))))⟩⟩
abbrev N_sorted_words : List Str := ["words", "size", "word"]
theorem sc_sorted_words : FnScope N_sorted_words ["words"] (defScope s_sorted_words) := ⟨rfl, rfl, rfl, by decide +kernel, rfl, by decide +kernel, by decide +kernel⟩
theorem bd_sorted_words : BindT "sorted_words" s_sorted_words ["words"] := fun _ _ _ _ _ _ us hl => match us, hl with | [_], _ => rfl
noncomputable def F_sorted_words : Fs := (fRet (fLc [1, 2] (fItS (fFz (fE (fUn gSorted (fE (fLc [2] (fItS (fFz (fP 0))) (gN 2) fYes (fTup (fCons (fUn gLen (fP 2)) (fCons (fFz (fP 2)) fNil))))))))) (gT 2 (gsCons (gN 1) (gsCons (gN 2) gsNil))) fYes (fFz (fP 2))))
noncomputable def m_sorted_words : Mir := runM [false] N_sorted_words F_sorted_words
theorem ok_sorted_words {f : Addr} {fd : FuncData} (E : Env K mg) (hm : mg "sorted_words" = some (.ref f)) (F : FunD K "sorted_words" "sorted_words" (defArgs s_sorted_words) (defBody s_sorted_words) (defScope s_sorted_words) [] [] f fd) : Cal P w K mg base "sorted_words" s_sorted_words 1 ["words"] m_sorted_words :=
  ⟨f, fd, hm, F, mk_run (k := 0) F sc_sorted_words [false] F_sorted_words fun cdv A outer s H EE pin gd hr hp => ⟨_, (sb_one (ss_ret (se_lc (own := [("size", 1), ("word", 2)]) rfl sc_sorted_words.nd (si_seq (K := K) (SO.fz (SE.o (se_b1 (r := Qy.rSorted K) (cr_sortedQ (u67 hr)) rg_sorted E.n_sorted (by decide +kernel) (SE.o (se_lc (own := [("word", 2)]) rfl sc_sorted_words.nd (si_seq (K := K) (SO.fz (so_var 0))) (blkOk_by (N := N_sorted_words) (sc := defScope s_sorted_words) (own := [("word", 2)]) (by decide +kernel)) (fun i hi => hp i (by revert i; decide)) (by decide) (fun _ _ _ _ _ => (sg_name sc_sorted_words.nd (hp 2 (by decide)))) (fun _ _ _ _ _ => stl_nil) (fun _ _ _ _ _ => se_tup (sa_cons (se_b1 (r := rLenQ K) call_lenQ rg_len E.n_len PySem.boot_len (so_var 2)) (sa_cons (SO.fz (so_var 2)) sa_nil))))))))) (blkOk_by (N := N_sorted_words) (sc := defScope s_sorted_words) (own := [("size", 1), ("word", 2)]) (by decide +kernel)) (fun i hi => hp i (by revert i; decide)) (by decide) (fun _ _ _ _ _ => (sg_tup (K := K) rfl (sgs_cons (sg_name sc_sorted_words.nd (hp 1 (by decide))) (sgs_cons (sg_name sc_sorted_words.nd (hp 2 (by decide))) sgs_nil)))) (fun _ _ _ _ _ => stl_nil) (fun _ _ _ _ _ => SO.fz (so_var 2)))))⟩⟩
abbrev N_is_word : List Str := ["value", "sign"]
theorem sc_is_word : FnScope N_is_word ["value"] (defScope s_is_word) := ⟨rfl, rfl, rfl, by decide +kernel, rfl, by decide +kernel, by decide +kernel⟩
theorem bd_is_word : BindT "is_word" s_is_word ["value"] := fun _ _ _ _ _ _ us hl => match us, hl with | [_], _ => rfl
noncomputable def F_is_word : Fs := (fRet (fAndV (fBin gIsi (fP 0) (fE (fC (.raw (.ty "str"))))) (fAndV (fBin gNe (fP 0) (fE (fC (.str "")))) (fUn gAll (fE (fLc [1] (fItS (fFz (fP 0))) (gN 1) fYes (fBin gInQ (fP 1) (fE (fC (.str "abcdefghijklmnopqrstuvwxyz"))))))))))
noncomputable def m_is_word : Mir := runM [false] N_is_word F_is_word
theorem ok_is_word {f : Addr} {fd : FuncData} (E : Env K mg) (hm : mg "is_word" = some (.ref f)) (F : FunD K "is_word" "is_word" (defArgs s_is_word) (defBody s_is_word) (defScope s_is_word) [] [] f fd) : Cal P w K mg base "is_word" s_is_word 1 ["value"] m_is_word :=
  ⟨f, fd, hm, F, mk_run (k := 0) F sc_is_word [false] F_is_word fun cdv A outer s H EE pin gd hr hp => ⟨_, (sb_one (ss_ret (se_and (se_b2 (r := rIsi K) call_isi rg_isi E.n_isinstance (by decide +kernel) (so_var 0) (SE.o (se_ty (n := "str") E.n_str (by decide +kernel)))) (se_and (so_cmp (r := rNeD K) (op_neD (u64 hr)) rg_ne (so_var 0) (SE.o (se_str)) (nomark _)) (se_one (se_b1 (r := rAll K) (cr_all rfl) rg_all E.n_all (by decide +kernel) (SE.o (se_lc (own := [("sign", 1)]) rfl sc_is_word.nd (si_seq (K := K) (SO.fz (so_var 0))) (blkOk_by (N := N_is_word) (sc := defScope s_is_word) (own := [("sign", 1)]) (by decide +kernel)) (fun i hi => hp i (by revert i; decide)) (by decide) (fun _ _ _ _ _ => (sg_name sc_is_word.nd (hp 1 (by decide)))) (fun _ _ _ _ _ => stl_nil) (fun _ _ _ _ _ => so_cmp (r := rInQ K) (op_inQ (u65 hr)) rg_inQ (so_var 1) (SE.o (se_gstr E.c_SMALL)) (by rfl))))))))))⟩⟩
abbrev N_is_kept_word : List Str := ["value"]
theorem sc_is_kept_word : FnScope N_is_kept_word ["value"] (defScope s_is_kept_word) := ⟨rfl, rfl, rfl, by decide +kernel, rfl, by decide +kernel, by decide +kernel⟩
theorem bd_is_kept_word : BindT "is_kept_word" s_is_kept_word ["value"] := fun _ _ _ _ _ _ us hl => match us, hl with | [_], _ => rfl
noncomputable def F_is_kept_word : Fs := (fRet (fAndV (fCall m_is_word (fCons (fFz (fP 0)) fNil) [none]) (fBin gLe (fE (fUn gLen (fP 0))) (fE (fC (.int 12))))))
noncomputable def m_is_kept_word : Mir := runM [false] N_is_kept_word F_is_kept_word
theorem ok_is_kept_word {f : Addr} {fd : FuncData} (E : Env K mg) (c_is_word : Cal P w K mg base "is_word" s_is_word 1 ["value"] m_is_word) (hm : mg "is_kept_word" = some (.ref f)) (F : FunD K "is_kept_word" "is_kept_word" (defArgs s_is_kept_word) (defBody s_is_kept_word) (defScope s_is_kept_word) [] [] f fd) : Cal P w K mg base "is_kept_word" s_is_kept_word 2 ["value"] m_is_kept_word :=
  ⟨f, fd, hm, F, mk_run (k := 1) F sc_is_kept_word [false] F_is_kept_word fun cdv A outer s H EE pin gd hr hp => ⟨_, (sb_one (ss_ret (se_and (se_call (K := K) c_is_word gd (hr.mono (by decide)) bd_is_word (sb0_cons (SO.fz (so_var 0)) sb0_nil) (len_cons len_nil)) (se_one (so_cmp op_le rg_le (SE.o (se_b1 (r := rLenQ K) call_lenQ rg_len E.n_len PySem.boot_len (so_var 0))) (SE.o (se_cint (cn := "Lot") (mc := .type "type") E.mk_Lot.mg E.cr_Lot E.cv_Lot_MOST_LETTERS)) (nomark _))))))⟩⟩
abbrev N_Lot_init : List Str := ["self", "words", "position", "word"]
theorem sc_Lot_init : FnScope N_Lot_init ["self", "words"] (defScope s_Lot_init) := ⟨rfl, rfl, rfl, by decide +kernel, rfl, by decide +kernel, by decide +kernel⟩
noncomputable def F_Lot_init : Fs := (fSeq (fIfS (fNot (fB (fCall m_is_list (fCons (fFz (fP 1)) fNil) [none]))) fStuck fNext) (fSeq (fFor (fItEQ (fCons (fFz (fP 1)) fNil)) (gT 2 (gsCons (gN 2) (gsCons (gN 3) gsNil))) (fIfS (fOr (fNot (fB (fCall m_is_kept_word (fCons (fFz (fP 3)) fNil) [none]))) (fB (fBin gInQ (fP 3) (fE (fSl (fP 1) fNoPart (fPart (fFz (fP 2)))))))) fStuck fNext)) (fSeq (fIfS (fB (fBin gGt (fE (fUn gLen (fP 1))) (fE (fC (.int 10))))) fStuck fNext) (fSetF 0 "Lot" "own_words" (fUn gTuple (fE (fCall m_sorted_words (fCons (fFz (fP 1)) fNil) [none])))))))
noncomputable def m_Lot_init : Mir := runM [true, false] N_Lot_init F_Lot_init
theorem fn_Lot_init {f : Addr} {fd : FuncData} {dvs : List V} (E : Env K mg) (c_sorted_words : Cal P w K mg base "sorted_words" s_sorted_words 1 ["words"] m_sorted_words) (c_is_kept_word : Cal P w K mg base "is_kept_word" s_is_kept_word 2 ["value"] m_is_kept_word) (c_is_list : Cal P w K mg base "is_list" s_is_list 1 ["value"] m_is_list) (F : FunD K "__init__" "Lot.__init__" (defArgs s_Lot_init) (defBody s_Lot_init) (defScope s_Lot_init) dvs [] f fd) : FnG P w K mg base CX0 3 f fd ["self", "words"] (spM K 2 m_Lot_init) :=
  mk_run (k := 2) F sc_Lot_init [true, false] F_Lot_init fun cdv A outer s H EE pin gd hr hp => ⟨_, (sb_cons (ss_if (st_not (st_val (se_call (K := K) c_is_list gd (hr.mono (by decide)) bd_is_list (sb0_cons (SO.fz (so_var 1)) sb0_nil) (len_cons len_nil)))) (sb_one (ss_never)) sb_nil) (sb_cons (ss_for PassesOwn.never rfl (si_enumQ (K := K) E.n_enumerate (sa_cons (SO.fz (so_var 1)) sa_nil)) (sg_tup (K := K) rfl (sgs_cons (sg_name sc_Lot_init.nd (hp 2 (by decide))) (sgs_cons (sg_name sc_Lot_init.nd (hp 3 (by decide))) sgs_nil))) (sb_one (ss_if (SW.st (sw_or (st_not (st_val (se_call (K := K) c_is_kept_word gd (hr.mono (by decide)) bd_is_kept_word (sb0_cons (SO.fz (so_var 3)) sb0_nil) (len_cons len_nil)))) (sw_or1 (st_cmp (r := rInQ K) (op_inQ (u65 hr)) rg_inQ (so_var 3) (SE.o (se_sl (K := K) (so_var 1) sp_none (sp_some (SO.fz (so_var 2))))) (by rfl))))) (sb_one (ss_never)) sb_nil))) (sb_cons (ss_if (st_cmp op_gt rg_gt (SE.o (se_b1 (r := rLenQ K) call_lenQ rg_len E.n_len PySem.boot_len (so_var 1))) (SE.o (se_cint (cn := "Lot") (mc := .type "type") E.mk_Lot.mg E.cr_Lot E.cv_Lot_MOST_WORDS)) (nomark _)) (sb_one (ss_never)) sb_nil) (sb_one (ss_fld (cn := "Lot") (i := 0) E.cls_Lot E.na_Lot_own_words (se_t1 (r := rTupleQ K) call_tupleQ rg_tuple E.n_tuple (by decide +kernel) (SE.o (se_call (K := K) c_sorted_words gd (hr.mono (by decide)) bd_sorted_words (sb0_cons (SO.fz (so_var 1)) sb0_nil) (len_cons len_nil)))))))))⟩
theorem ok_Lot_init {f : Addr} {fd : FuncData} {dvs : List V} (E : Env K mg) (c_sorted_words : Cal P w K mg base "sorted_words" s_sorted_words 1 ["words"] m_sorted_words) (c_is_kept_word : Cal P w K mg base "is_kept_word" s_is_kept_word 2 ["value"] m_is_kept_word) (c_is_list : Cal P w K mg base "is_list" s_is_list 1 ["value"] m_is_list) (h1 : PySem.W.findIn K (.ref (He.ga K "Lot")) "__init__" = some (some (.ref f))) (h2 : PySem.W.isFn K (.ref f) = true) (h3 : PySem.W.keepIn K (.ref f) = true) (hb : Binds K fd ["self", "words"] []) (F : FunD K "__init__" "Lot.__init__" (defArgs s_Lot_init) (defBody s_Lot_init) (defScope s_Lot_init) dvs [] f fd) : CalM P w K mg base "Lot" "__init__" 3 ["self", "words"] m_Lot_init :=
  ⟨f, fd, h1, h2, h3, hb, fn_Lot_init E c_sorted_words c_is_kept_word c_is_list F⟩
abbrev N_law_found : List Str := ["_law_asked_here", "_law_term_here", "_law_k"]
theorem sc_law_found : FnScope N_law_found ["_law_asked_here", "_law_term_here"] (defScope s_law_found) := ⟨rfl, rfl, rfl, by decide +kernel, rfl, by decide +kernel, by decide +kernel⟩
theorem bd_law_found : BindT "_law_found" s_law_found ["_law_asked_here", "_law_term_here"] := fun _ _ _ _ _ _ us hl => match us, hl with | [_, _], _ => rfl
noncomputable def F_law_found : Fs := (fRet (fLc [2] (fItR1 (fCons (fBin gAdd (fE (fBin gSubI (fE (fUn gLen (fP 0))) (fE (fUn gLen (fP 1))))) (fE (fC (.int 1)))) fNil)) (gN 2) (fB (fBin gEq (fE (fSl (fP 0) (fPart (fFz (fP 2))) (fPart (fBin gAdd (fP 2) (fE (fUn gLen (fP 1))))))) (fP 1))) (fFz (fP 2))))
noncomputable def m_law_found : Mir := runM [false, false] N_law_found F_law_found
theorem ok_law_found {f : Addr} {fd : FuncData} (E : Env K mg) (hm : mg "_law_found" = some (.ref f)) (F : FunD K "_law_found" "_law_found" (defArgs s_law_found) (defBody s_law_found) (defScope s_law_found) [] [] f fd) : Cal P w K mg base "_law_found" s_law_found 1 ["_law_asked_here", "_law_term_here"] m_law_found :=
  ⟨f, fd, hm, F, mk_run (k := 0) F sc_law_found [false, false] F_law_found fun cdv A outer s H EE pin gd hr hp => ⟨_, (sb_one (ss_ret (se_lc (own := [("_law_k", 2)]) rfl sc_law_found.nd (si_rng1 E.n_range (sa_cons (so_op op_addQ rg_addQ (SE.o (so_op op_sub rg_sub (SE.o (se_b1 (r := rLenQ K) call_lenQ rg_len E.n_len PySem.boot_len (so_var 0))) (SE.o (se_b1 (r := rLenQ K) call_lenQ rg_len E.n_len PySem.boot_len (so_var 1))))) (SE.o (se_int))) sa_nil)) (blkOk_by (N := N_law_found) (sc := defScope s_law_found) (own := [("_law_k", 2)]) (by decide +kernel)) (fun i hi => hp i (by revert i; decide)) (by decide) (fun _ _ _ _ _ => (sg_name sc_law_found.nd (hp 2 (by decide)))) (fun _ _ _ _ _ => (stl_one (st_cmp (r := rEqD K) (op_eqD (u64 hr)) rg_eq (SE.o (se_sl (K := K) (so_var 0) (sp_some (SO.fz (so_var 2))) (sp_some (so_op op_addQ rg_addQ (so_var 2) (SE.o (se_b1 (r := rLenQ K) call_lenQ rg_len E.n_len PySem.boot_len (so_var 1))))))) (so_var 1) (nomark _)))) (fun _ _ _ _ _ => SO.fz (so_var 2)))))⟩⟩
abbrev N_law_links : List Str := ["_law_terms_here", "_law_asked_here", "_law_found_here", "_law_term_here", "_law_k"]
theorem sc_law_links : FnScope N_law_links ["_law_terms_here", "_law_asked_here"] (defScope s_law_links) := ⟨rfl, rfl, rfl, by decide +kernel, rfl, by decide +kernel, by decide +kernel⟩
theorem bd_law_links : BindT "_law_links" s_law_links ["_law_terms_here", "_law_asked_here"] := fun _ _ _ _ _ _ us hl => match us, hl with | [_, _], _ => rfl
noncomputable def F_law_links : Fs := (fSeq (fAsg (fLst fNil) (gN 2)) (fSeq (fFor (fItS (fFz (fP 0))) (gN 3) (fX (fExtend 2 (fLc [4] (fItS (fFz (fE (fCall m_law_found (fCons (fFz (fP 1)) (fCons (fFz (fP 3)) fNil)) [none, none])))) (gN 4) fYes (fTup (fCons (fFz (fP 4)) (fCons (fBin gAdd (fP 4) (fE (fUn gLen (fP 3)))) (fCons (fFz (fP 3)) fNil)))))))) (fRet (fUn gSorted (fP 2)))))
noncomputable def m_law_links : Mir := runM [false, false] N_law_links F_law_links
theorem ok_law_links {f : Addr} {fd : FuncData} (E : Env K mg) (c_law_found : Cal P w K mg base "_law_found" s_law_found 1 ["_law_asked_here", "_law_term_here"] m_law_found) (hm : mg "_law_links" = some (.ref f)) (F : FunD K "_law_links" "_law_links" (defArgs s_law_links) (defBody s_law_links) (defScope s_law_links) [] [] f fd) : Cal P w K mg base "_law_links" s_law_links 2 ["_law_terms_here", "_law_asked_here"] m_law_links :=
  ⟨f, fd, hm, F, mk_run (k := 1) F sc_law_links [false, false] F_law_links fun cdv A outer s H EE pin gd hr hp => ⟨_, (sb_cons (ss_set sc_law_links.nd (hp 2 (by decide)) (se_list sa_nil)) (sb_cons (ss_for PassesOwn.never rfl (si_seq (K := K) (SO.fz (so_var 0))) (sg_name sc_law_links.nd (hp 3 (by decide))) (sb_one (ss_expr (se_extend (i := 2) (se_lc (own := [("_law_k", 4)]) rfl sc_law_links.nd (si_seq (K := K) (SO.fz (SE.o (se_call (K := K) c_law_found gd (hr.mono (by decide)) bd_law_found (sb0_cons (SO.fz (so_var 1)) (sb0_cons (SO.fz (so_var 3)) sb0_nil)) (len_cons (len_cons len_nil)))))) (blkOk_by (N := N_law_links) (sc := defScope s_law_links) (own := [("_law_k", 4)]) (by decide +kernel)) (fun i hi => hp i (by revert i; decide)) (by decide) (fun _ _ _ _ _ => (sg_name sc_law_links.nd (hp 4 (by decide)))) (fun _ _ _ _ _ => stl_nil) (fun _ _ _ _ _ => se_tup (sa_cons (SO.fz (so_var 4)) (sa_cons (so_op op_addQ rg_addQ (so_var 4) (SE.o (se_b1 (r := rLenQ K) call_lenQ rg_len E.n_len PySem.boot_len (so_var 3)))) (sa_cons (SO.fz (so_var 3)) sa_nil))))))))) (sb_one (ss_ret (se_b1 (r := Qy.rSorted K) (cr_sortedQ (u67 hr)) rg_sorted E.n_sorted (by decide +kernel) (so_var 2))))))⟩⟩
abbrev N_law_steps : List Str := ["_law_terms_here", "_law_asked_here", "_law_found_here", "_law_low", "_law_high", "_law_term_here"]
theorem sc_law_steps : FnScope N_law_steps ["_law_terms_here", "_law_asked_here"] (defScope s_law_steps) := ⟨rfl, rfl, rfl, by decide +kernel, rfl, by decide +kernel, by decide +kernel⟩
theorem bd_law_steps : BindT "_law_steps" s_law_steps ["_law_terms_here", "_law_asked_here"] := fun _ _ _ _ _ _ us hl => match us, hl with | [_, _], _ => rfl
noncomputable def F_law_steps : Fs := (fSeq (fAsg (fLst fNil) (gN 2)) (fSeq (fFor (fItS (fFz (fE (fCall m_law_links (fCons (fFz (fP 0)) (fCons (fFz (fP 1)) fNil)) [none, none])))) (gT 3 (gsCons (gN 3) (gsCons (gN 4) (gsCons (gN 5) gsNil)))) (fX (fExtend 2 (fLst (fCons (fTup (fCons (fFz (fP 3)) (fCons (fFz (fP 5)) (fCons (fFz (fP 4)) fNil)))) (fCons (fTup (fCons (fFz (fP 4)) (fCons (fFz (fP 5)) (fCons (fFz (fP 3)) fNil)))) fNil)))))) (fRet (fUn gSorted (fP 2)))))
noncomputable def m_law_steps : Mir := runM [false, false] N_law_steps F_law_steps
theorem ok_law_steps {f : Addr} {fd : FuncData} (E : Env K mg) (c_law_links : Cal P w K mg base "_law_links" s_law_links 2 ["_law_terms_here", "_law_asked_here"] m_law_links) (hm : mg "_law_steps" = some (.ref f)) (F : FunD K "_law_steps" "_law_steps" (defArgs s_law_steps) (defBody s_law_steps) (defScope s_law_steps) [] [] f fd) : Cal P w K mg base "_law_steps" s_law_steps 3 ["_law_terms_here", "_law_asked_here"] m_law_steps :=
  ⟨f, fd, hm, F, mk_run (k := 2) F sc_law_steps [false, false] F_law_steps fun cdv A outer s H EE pin gd hr hp => ⟨_, (sb_cons (ss_set sc_law_steps.nd (hp 2 (by decide)) (se_list sa_nil)) (sb_cons (ss_for PassesOwn.never rfl (si_seq (K := K) (SO.fz (SE.o (se_call (K := K) c_law_links gd (hr.mono (by decide)) bd_law_links (sb0_cons (SO.fz (so_var 0)) (sb0_cons (SO.fz (so_var 1)) sb0_nil)) (len_cons (len_cons len_nil)))))) (sg_tup (K := K) rfl (sgs_cons (sg_name sc_law_steps.nd (hp 3 (by decide))) (sgs_cons (sg_name sc_law_steps.nd (hp 4 (by decide))) (sgs_cons (sg_name sc_law_steps.nd (hp 5 (by decide))) sgs_nil)))) (sb_one (ss_expr (se_extend (i := 2) (se_list (sa_cons (se_tup (sa_cons (SO.fz (so_var 3)) (sa_cons (SO.fz (so_var 5)) (sa_cons (SO.fz (so_var 4)) sa_nil)))) (sa_cons (se_tup (sa_cons (SO.fz (so_var 4)) (sa_cons (SO.fz (so_var 5)) (sa_cons (SO.fz (so_var 3)) sa_nil)))) sa_nil))))))) (sb_one (ss_ret (se_b1 (r := Qy.rSorted K) (cr_sortedQ (u67 hr)) rg_sorted E.n_sorted (by decide +kernel) (so_var 2))))))⟩⟩
abbrev N_law_bent : List Str := ["_law_pot_here", "_law_steps_all", "_law_found_here", "_law_kind", "_law_at", "_law_here", "_law_odds", "_law_odd"]
theorem sc_law_bent : FnScope N_law_bent ["_law_pot_here", "_law_steps_all", "_law_found_here"] (defScope s_law_bent) := ⟨rfl, rfl, rfl, by decide +kernel, rfl, by decide +kernel, by decide +kernel⟩
theorem bd_law_bent : BindT "_law_bent" s_law_bent ["_law_pot_here", "_law_steps_all", "_law_found_here"] := fun _ _ _ _ _ _ us hl => match us, hl with | [_, _, _], _ => rfl
noncomputable def F_law_bent : Fs := (fSeq (fPar (fCons (fCall m_law_draw (fLend 0 (fCons (fC (.int 11)) fNil)) [some 0, none]) (fCons (fCall m_law_draw (fLend 0 (fCons (fUn gLen (fP 2)) fNil)) [some 0, none]) fNil)) (gs2 3 4)) (fSeq (fAsg (fBin gIx (fP 2) (fP 4)) (gN 5)) (fSeq (fIfS (fB (fBin gEq (fP 3) (fE (fC (.int 0))))) (fRet (fBin gAdd (fE (fSl (fP 2) fNoPart (fPart (fFz (fP 4))))) (fE (fSl (fP 2) (fPart (fBin gAdd (fP 4) (fE (fC (.int 1))))) fNoPart)))) fNext) (fSeq (fIfS (fB (fBin gEq (fP 3) (fE (fC (.int 1))))) (fRet (fBin gAdd (fE (fBin gAdd (fE (fSl (fP 2) fNoPart (fPart (fFz (fP 4))))) (fE (fLst (fCons (fFz (fP 5)) fNil))))) (fE (fSl (fP 2) (fPart (fFz (fP 4))) fNoPart)))) fNext) (fSeq (fIfS (fB (fBin gEq (fP 3) (fE (fC (.int 2))))) (fRet (fBin gAdd (fE (fBin gAdd (fE (fSl (fP 2) fNoPart (fPart (fFz (fP 4))))) (fE (fLst (fCons (fFz (fE (fUn gRev3 (fP 5)))) fNil))))) (fE (fSl (fP 2) (fPart (fBin gAdd (fP 4) (fE (fC (.int 1))))) fNoPart)))) fNext) (fSeq (fIfS (fB (fBin gEq (fP 3) (fE (fC (.int 3))))) (fRet (fBin gAdd (fE (fBin gAdd (fE (fSl (fP 2) fNoPart (fPart (fFz (fP 4))))) (fE (fLst (fCons (fFz (fP 5)) (fCons (fFz (fE (fUn gRev3 (fP 5)))) fNil)))))) (fE (fSl (fP 2) (fPart (fFz (fP 4))) fNoPart)))) fNext) (fSeq (fIfS (fB (fBin gEq (fP 3) (fE (fC (.int 4))))) (fRet (fBin gAdd (fE (fBin gAdd (fE (fSl (fP 2) fNoPart (fPart (fFz (fP 4))))) (fE (fLst (fCons (fFz (fE (fUn gList (fP 5)))) fNil))))) (fE (fSl (fP 2) (fPart (fBin gAdd (fP 4) (fE (fC (.int 1))))) fNoPart)))) fNext) (fSeq (fIfS (fB (fBin gEq (fP 3) (fE (fC (.int 5))))) (fRet (fBin gAdd (fE (fBin gAdd (fE (fSl (fP 2) fNoPart (fPart (fFz (fP 4))))) (fE (fLst (fCons (fTup (fCons (fBin gIx (fP 5) (fE (fC (.int 0)))) (fCons (fBin gAdd (fE (fBin gIx (fP 5) (fE (fC (.int 1))))) (fE (fC (.str "a")))) (fCons (fBin gIx (fP 5) (fE (fC (.int 2)))) fNil)))) fNil))))) (fE (fSl (fP 2) (fPart (fBin gAdd (fP 4) (fE (fC (.int 1))))) fNoPart)))) fNext) (fSeq (fIfS (fB (fBin gEq (fP 3) (fE (fC (.int 6))))) (fRet (fBin gAdd (fE (fBin gAdd (fE (fSl (fP 2) fNoPart (fPart (fFz (fP 4))))) (fE (fLst (fCons (fTup (fCons (fBin gIx (fP 5) (fE (fC (.int 0)))) (fCons (fBin gIx (fP 5) (fE (fC (.int 1)))) (fCons (fBin gAdd (fE (fBin gIx (fP 5) (fE (fC (.int 2))))) (fE (fC (.int 1)))) fNil)))) fNil))))) (fE (fSl (fP 2) (fPart (fBin gAdd (fP 4) (fE (fC (.int 1))))) fNoPart)))) fNext) (fSeq (fIfS (fB (fBin gEq (fP 3) (fE (fC (.int 7))))) (fRet (fBin gAdd (fE (fBin gAdd (fE (fSl (fP 2) fNoPart (fPart (fFz (fP 4))))) (fE (fLst (fCons (fFz (fE (fBin gCatT (fP 5) (fE (fTup (fCons (fC .non) fNil)))))) fNil))))) (fE (fSl (fP 2) (fPart (fBin gAdd (fP 4) (fE (fC (.int 1))))) fNoPart)))) fNext) (fSeq (fIfS (fB (fBin gEq (fP 3) (fE (fC (.int 8))))) (fRet (fBin gAdd (fP 2) (fE (fLst (fCons (fFz (fE (fCall m_law_pick (fLend 0 (fCons (fFz (fP 1)) fNil)) [some 0, none]))) fNil))))) fNext) (fSeq (fIfS (fB (fBin gEq (fP 3) (fE (fC (.int 9))))) (fSeq (fAsg (fLst (fCons (fC .non) (fCons (fC (.int 0)) (fCons (fC (.str "")) (fCons (fBin gIx (fP 5) (fE (fC (.int 1)))) (fCons (fFz (fE (fSl (fP 5) fNoPart (fPart (fC (.int 2)))))) (fCons (fTup (fCons (fC (.bl true)) (fCons (fBin gIx (fP 5) (fE (fC (.int 1)))) (fCons (fBin gIx (fP 5) (fE (fC (.int 2)))) fNil)))) (fCons (fTup (fCons (fBin gIx (fP 5) (fE (fC (.int 0)))) (fCons (fBin gIx (fP 5) (fE (fC (.int 1)))) (fCons (fC (.bl true)) fNil)))) fNil)))))))) (gN 6)) (fSeq (fX (fExtend 6 (fLst (fCons (fTup (fCons (fBin gIx (fP 5) (fE (fC (.int 0)))) (fCons (fBin gIx (fP 5) (fE (fC (.int 1)))) (fCons (fC .non) fNil)))) (fCons (fTup (fCons (fBin gIx (fP 5) (fE (fC (.int 0)))) (fCons (fBin gIx (fP 5) (fE (fC (.int 1)))) (fCons (fUn gStrI (fE (fBin gIx (fP 5) (fE (fC (.int 2)))))) fNil)))) (fCons (fTup (fCons (fBin gIx (fP 5) (fE (fC (.int 0)))) (fCons (fLst (fCons (fBin gIx (fP 5) (fE (fC (.int 1)))) fNil)) (fCons (fBin gIx (fP 5) (fE (fC (.int 2)))) fNil)))) fNil)))))) (fSeq (fAsg (fCall m_law_pick (fLend 0 (fCons (fFz (fE (fBin gAdd (fP 6) (fE (fLst (fCons (fFz (fE (fBin gCatT (fE (fTup (fCons (fC (.bl false)) fNil))) (fE (fSl (fP 5) (fPart (fC (.int 1))) fNoPart))))) fNil)))))) fNil)) [some 0, none]) (gN 7)) (fRet (fBin gAdd (fE (fBin gAdd (fE (fSl (fP 2) fNoPart (fPart (fFz (fP 4))))) (fE (fLst (fCons (fFz (fP 7)) fNil))))) (fE (fSl (fP 2) (fPart (fBin gAdd (fP 4) (fE (fC (.int 1))))) fNoPart))))))) fNext) (fRet (fUn gRevL (fP 2)))))))))))))))
noncomputable def m_law_bent : Mir := runM [true, false, false] N_law_bent F_law_bent
theorem ok_law_bent {f : Addr} {fd : FuncData} (E : Env K mg) (c_law_pick : Cal P w K mg base "_law_pick" s_law_pick 2 ["_law_pot_here", "_law_some"] m_law_pick) (c_law_draw : Cal P w K mg base "_law_draw" s_law_draw 1 ["_law_pot_here", "_law_faces"] m_law_draw) (hm : mg "_law_bent" = some (.ref f)) (F : FunD K "_law_bent" "_law_bent" (defArgs s_law_bent) (defBody s_law_bent) (defScope s_law_bent) [] [] f fd) : Cal P w K mg base "_law_bent" s_law_bent 3 ["_law_pot_here", "_law_steps_all", "_law_found_here"] m_law_bent :=
  ⟨f, fd, hm, F, mk_run (k := 2) F sc_law_bent [true, false, false] F_law_bent fun cdv A outer s H EE pin gd hr hp => ⟨_, (sb_cons (ss_par2 (i := 3) (j := 4) rfl sc_law_bent.nd (hp 3 (by decide)) (hp 4 (by decide)) (by decide) (sa_cons (se_call (K := K) c_law_draw gd (hr.mono (by decide)) bd_law_draw (sb0_lend 0 (sb0_cons (se_int) sb0_nil)) (len_lend (len_cons len_nil))) (sa_cons (se_call (K := K) c_law_draw gd (hr.mono (by decide)) bd_law_draw (sb0_lend 0 (sb0_cons (se_b1 (r := rLenQ K) call_lenQ rg_len E.n_len PySem.boot_len (so_var 2)) sb0_nil)) (len_lend (len_cons len_nil))) sa_nil))) (sb_cons (ss_set sc_law_bent.nd (hp 5 (by decide)) (se_ix (K := K) (so_var 2) (so_var 4))) (sb_cons (ss_if (st_cmp (r := rEqD K) (op_eqD (u64 hr)) rg_eq (so_var 3) (SE.o (se_int)) (nomark _)) (sb_one (ss_ret (so_op op_addQ rg_addQ (SE.o (se_sl (K := K) (so_var 2) sp_none (sp_some (SO.fz (so_var 4))))) (SE.o (se_sl (K := K) (so_var 2) (sp_some (so_op op_addQ rg_addQ (so_var 4) (SE.o (se_int)))) sp_none))))) sb_nil) (sb_cons (ss_if (st_cmp (r := rEqD K) (op_eqD (u64 hr)) rg_eq (so_var 3) (SE.o (se_int)) (nomark _)) (sb_one (ss_ret (so_op op_addQ rg_addQ (SE.o (so_op op_addQ rg_addQ (SE.o (se_sl (K := K) (so_var 2) sp_none (sp_some (SO.fz (so_var 4))))) (SE.o (se_list (sa_cons (SO.fz (so_var 5)) sa_nil))))) (SE.o (se_sl (K := K) (so_var 2) (sp_some (SO.fz (so_var 4))) sp_none))))) sb_nil) (sb_cons (ss_if (st_cmp (r := rEqD K) (op_eqD (u64 hr)) rg_eq (so_var 3) (SE.o (se_int)) (nomark _)) (sb_one (ss_ret (so_op op_addQ rg_addQ (SE.o (so_op op_addQ rg_addQ (SE.o (se_sl (K := K) (so_var 2) sp_none (sp_some (SO.fz (so_var 4))))) (SE.o (se_list (sa_cons (SO.fz (SE.o (se_rev3 (so_var 5)))) sa_nil))))) (SE.o (se_sl (K := K) (so_var 2) (sp_some (so_op op_addQ rg_addQ (so_var 4) (SE.o (se_int)))) sp_none))))) sb_nil) (sb_cons (ss_if (st_cmp (r := rEqD K) (op_eqD (u64 hr)) rg_eq (so_var 3) (SE.o (se_int)) (nomark _)) (sb_one (ss_ret (so_op op_addQ rg_addQ (SE.o (so_op op_addQ rg_addQ (SE.o (se_sl (K := K) (so_var 2) sp_none (sp_some (SO.fz (so_var 4))))) (SE.o (se_list (sa_cons (SO.fz (so_var 5)) (sa_cons (SO.fz (SE.o (se_rev3 (so_var 5)))) sa_nil)))))) (SE.o (se_sl (K := K) (so_var 2) (sp_some (SO.fz (so_var 4))) sp_none))))) sb_nil) (sb_cons (ss_if (st_cmp (r := rEqD K) (op_eqD (u64 hr)) rg_eq (so_var 3) (SE.o (se_int)) (nomark _)) (sb_one (ss_ret (so_op op_addQ rg_addQ (SE.o (so_op op_addQ rg_addQ (SE.o (se_sl (K := K) (so_var 2) sp_none (sp_some (SO.fz (so_var 4))))) (SE.o (se_list (sa_cons (SO.fz (SE.o (se_t1 (r := rListQ K) call_listQ rg_list E.n_list (by decide +kernel) (so_var 5)))) sa_nil))))) (SE.o (se_sl (K := K) (so_var 2) (sp_some (so_op op_addQ rg_addQ (so_var 4) (SE.o (se_int)))) sp_none))))) sb_nil) (sb_cons (ss_if (st_cmp (r := rEqD K) (op_eqD (u64 hr)) rg_eq (so_var 3) (SE.o (se_int)) (nomark _)) (sb_one (ss_ret (so_op op_addQ rg_addQ (SE.o (so_op op_addQ rg_addQ (SE.o (se_sl (K := K) (so_var 2) sp_none (sp_some (SO.fz (so_var 4))))) (SE.o (se_list (sa_cons (se_tup (sa_cons (se_ix (K := K) (so_var 5) (SE.o (se_int))) (sa_cons (so_op op_addQ rg_addQ (SE.o (se_ix (K := K) (so_var 5) (SE.o (se_int)))) (SE.o (se_str))) (sa_cons (se_ix (K := K) (so_var 5) (SE.o (se_int))) sa_nil)))) sa_nil))))) (SE.o (se_sl (K := K) (so_var 2) (sp_some (so_op op_addQ rg_addQ (so_var 4) (SE.o (se_int)))) sp_none))))) sb_nil) (sb_cons (ss_if (st_cmp (r := rEqD K) (op_eqD (u64 hr)) rg_eq (so_var 3) (SE.o (se_int)) (nomark _)) (sb_one (ss_ret (so_op op_addQ rg_addQ (SE.o (so_op op_addQ rg_addQ (SE.o (se_sl (K := K) (so_var 2) sp_none (sp_some (SO.fz (so_var 4))))) (SE.o (se_list (sa_cons (se_tup (sa_cons (se_ix (K := K) (so_var 5) (SE.o (se_int))) (sa_cons (se_ix (K := K) (so_var 5) (SE.o (se_int))) (sa_cons (so_op op_addQ rg_addQ (SE.o (se_ix (K := K) (so_var 5) (SE.o (se_int)))) (SE.o (se_int))) sa_nil)))) sa_nil))))) (SE.o (se_sl (K := K) (so_var 2) (sp_some (so_op op_addQ rg_addQ (so_var 4) (SE.o (se_int)))) sp_none))))) sb_nil) (sb_cons (ss_if (st_cmp (r := rEqD K) (op_eqD (u64 hr)) rg_eq (so_var 3) (SE.o (se_int)) (nomark _)) (sb_one (ss_ret (so_op op_addQ rg_addQ (SE.o (so_op op_addQ rg_addQ (SE.o (se_sl (K := K) (so_var 2) sp_none (sp_some (SO.fz (so_var 4))))) (SE.o (se_list (sa_cons (SO.fz (SE.o (so_op op_catT rg_catT (so_var 5) (SE.o (se_tup (sa_cons (se_non) sa_nil)))))) sa_nil))))) (SE.o (se_sl (K := K) (so_var 2) (sp_some (so_op op_addQ rg_addQ (so_var 4) (SE.o (se_int)))) sp_none))))) sb_nil) (sb_cons (ss_if (st_cmp (r := rEqD K) (op_eqD (u64 hr)) rg_eq (so_var 3) (SE.o (se_int)) (nomark _)) (sb_one (ss_ret (so_op op_addQ rg_addQ (so_var 2) (SE.o (se_list (sa_cons (SO.fz (SE.o (se_call (K := K) c_law_pick gd (hr.mono (by decide)) bd_law_pick (sb0_lend 0 (sb0_cons (SO.fz (so_var 1)) sb0_nil)) (len_lend (len_cons len_nil))))) sa_nil)))))) sb_nil) (sb_cons (ss_if (st_cmp (r := rEqD K) (op_eqD (u64 hr)) rg_eq (so_var 3) (SE.o (se_int)) (nomark _)) (sb_cons (ss_set sc_law_bent.nd (hp 6 (by decide)) (se_list (sa_cons (se_non) (sa_cons (se_int) (sa_cons (se_str) (sa_cons (se_ix (K := K) (so_var 5) (SE.o (se_int))) (sa_cons (SO.fz (SE.o (se_sl (K := K) (so_var 5) sp_none (sp_some (se_int))))) (sa_cons (se_tup (sa_cons (se_bl) (sa_cons (se_ix (K := K) (so_var 5) (SE.o (se_int))) (sa_cons (se_ix (K := K) (so_var 5) (SE.o (se_int))) sa_nil)))) (sa_cons (se_tup (sa_cons (se_ix (K := K) (so_var 5) (SE.o (se_int))) (sa_cons (se_ix (K := K) (so_var 5) (SE.o (se_int))) (sa_cons (se_bl) sa_nil)))) sa_nil))))))))) (sb_cons (ss_expr (se_extend (i := 6) (se_list (sa_cons (se_tup (sa_cons (se_ix (K := K) (so_var 5) (SE.o (se_int))) (sa_cons (se_ix (K := K) (so_var 5) (SE.o (se_int))) (sa_cons (se_non) sa_nil)))) (sa_cons (se_tup (sa_cons (se_ix (K := K) (so_var 5) (SE.o (se_int))) (sa_cons (se_ix (K := K) (so_var 5) (SE.o (se_int))) (sa_cons (se_t1 call_strI rg_strI E.n_str (by decide +kernel) (SE.o (se_ix (K := K) (so_var 5) (SE.o (se_int))))) sa_nil)))) (sa_cons (se_tup (sa_cons (se_ix (K := K) (so_var 5) (SE.o (se_int))) (sa_cons (se_list (sa_cons (se_ix (K := K) (so_var 5) (SE.o (se_int))) sa_nil)) (sa_cons (se_ix (K := K) (so_var 5) (SE.o (se_int))) sa_nil)))) sa_nil)))))) (sb_cons (ss_set sc_law_bent.nd (hp 7 (by decide)) (se_call (K := K) c_law_pick gd (hr.mono (by decide)) bd_law_pick (sb0_lend 0 (sb0_cons (SO.fz (SE.o (so_op op_addQ rg_addQ (so_var 6) (SE.o (se_list (sa_cons (SO.fz (SE.o (so_op op_catT rg_catT (SE.o (se_tup (sa_cons (se_bl) sa_nil))) (SE.o (se_sl (K := K) (so_var 5) (sp_some (se_int)) sp_none))))) sa_nil)))))) sb0_nil)) (len_lend (len_cons len_nil)))) (sb_one (ss_ret (so_op op_addQ rg_addQ (SE.o (so_op op_addQ rg_addQ (SE.o (se_sl (K := K) (so_var 2) sp_none (sp_some (SO.fz (so_var 4))))) (SE.o (se_list (sa_cons (SO.fz (so_var 7)) sa_nil))))) (SE.o (se_sl (K := K) (so_var 2) (sp_some (so_op op_addQ rg_addQ (so_var 4) (SE.o (se_int)))) sp_none)))))))) sb_nil) (sb_one (ss_ret (se_revL (so_var 2))))))))))))))))⟩⟩
abbrev N_law_is_plan : List Str := ["_law_steps_all", "_law_last", "_law_thing", "_law_here", "_law_step", "_law_k", "_law_far_here"]
theorem sc_law_is_plan : FnScope N_law_is_plan ["_law_steps_all", "_law_last", "_law_thing"] (defScope s_law_is_plan) := ⟨rfl, rfl, rfl, by decide +kernel, rfl, by decide +kernel, by decide +kernel⟩
theorem bd_law_is_plan : BindT "_law_is_plan" s_law_is_plan ["_law_steps_all", "_law_last", "_law_thing"] := fun _ _ _ _ _ _ us hl => match us, hl with | [_, _, _], _ => rfl
noncomputable def F_law_is_plan : Fs := (fSeq (fIfS (fNot (fB (fBin gIsi2K (fP 2) (fE (fTup (fCons (fC (.raw (.ty "list"))) (fCons (fC (.raw (.ty "tuple"))) fNil))))))) (fRet (fC (.bl false))) fNext) (fSeq (fAsg (fC (.int 0)) (gN 3)) (fSeq (fFor (fItS (fFz (fP 2))) (gN 4) (fSeq (fIfS (fOr (fNot (fB (fBin gIsi (fP 4) (fE (fC (.raw (.ty "tuple"))))))) (fOr (fB (fBin gNe (fE (fUn gLen (fP 4))) (fE (fC (.int 3))))) (fNot (fB (fUn gAll (fE (fLc [5] (fItS (fFz (fE (fLst (fCons (fC (.int 0)) (fCons (fC (.int 2)) fNil)))))) (gN 5) fYes (fBin gNotTrue (fE (fBin gIx (fP 4) (fP 5))) (fE (fC (.bl true))))))))))) (fRet (fC (.bl false))) fNext) (fSeq (fIfS (fOr (fB (fBin gNotInQ (fE (fUn gRepr (fP 4))) (fE (fLc [6] (fItS (fFz (fP 0))) (gN 6) fYes (fUn gRepr (fP 6)))))) (fB (fBin gNe (fE (fBin gIx (fP 4) (fE (fC (.int 0))))) (fP 3)))) (fRet (fC (.bl false))) fNext) (fAsg (fBin gIx (fP 4) (fE (fC (.int 2)))) (gN 3))))) (fRet (fBin gEq (fP 3) (fP 1))))))
noncomputable def m_law_is_plan : Mir := runM [false, false, false] N_law_is_plan F_law_is_plan
theorem ok_law_is_plan {f : Addr} {fd : FuncData} (E : Env K mg) (hm : mg "_law_is_plan" = some (.ref f)) (F : FunD K "_law_is_plan" "_law_is_plan" (defArgs s_law_is_plan) (defBody s_law_is_plan) (defScope s_law_is_plan) [] [] f fd) : Cal P w K mg base "_law_is_plan" s_law_is_plan 1 ["_law_steps_all", "_law_last", "_law_thing"] m_law_is_plan :=
  ⟨f, fd, hm, F, mk_run (k := 0) F sc_law_is_plan [false, false, false] F_law_is_plan fun cdv A outer s H EE pin gd hr hp => ⟨_, (sb_cons (ss_if (st_not (st_val (se_b2 (r := rIsiT K) call_isiT rg_isi2K E.n_isinstance (by decide +kernel) (so_var 2) (SE.o (se_tup (sa_cons (se_ty (n := "list") E.n_list (by decide +kernel)) (sa_cons (se_ty (n := "tuple") E.n_tuple (by decide +kernel)) sa_nil))))))) (sb_one (ss_ret (se_bl))) sb_nil) (sb_cons (ss_set sc_law_is_plan.nd (hp 3 (by decide)) (se_int)) (sb_cons (ss_for PassesOwn.never rfl (si_seq (K := K) (SO.fz (so_var 2))) (sg_name sc_law_is_plan.nd (hp 4 (by decide))) (sb_cons (ss_if (SW.st (sw_or (st_not (st_val (se_b2 (r := rIsi K) call_isi rg_isi E.n_isinstance (by decide +kernel) (so_var 4) (SE.o (se_ty (n := "tuple") E.n_tuple (by decide +kernel)))))) (sw_or (st_cmp (r := rNeD K) (op_neD (u64 hr)) rg_ne (SE.o (se_b1 (r := rLenQ K) call_lenQ rg_len E.n_len PySem.boot_len (so_var 4))) (SE.o (se_int)) (nomark _)) (sw_or1 (st_not (st_val (se_b1 (r := rAll K) (cr_all rfl) rg_all E.n_all (by decide +kernel) (SE.o (se_lc (own := [("_law_k", 5)]) rfl sc_law_is_plan.nd (si_seq (K := K) (SO.fz (SE.o (se_list (sa_cons (se_int) (sa_cons (se_int) sa_nil)))))) (blkOk_by (N := N_law_is_plan) (sc := defScope s_law_is_plan) (own := [("_law_k", 5)]) (by decide +kernel)) (fun i hi => hp i (by revert i; decide)) (by decide) (fun _ _ _ _ _ => (sg_name sc_law_is_plan.nd (hp 5 (by decide)))) (fun _ _ _ _ _ => stl_nil) (fun _ _ _ _ _ => so_cmp op_notTrue rg_notTrue (SE.o (se_ix (K := K) (so_var 4) (so_var 5))) (SE.o se_bl) (nomark _))))))))))) (sb_one (ss_ret (se_bl))) sb_nil) (sb_cons (ss_if (SW.st (sw_or (st_cmp (r := rNotInQ K) (op_notInQ (u65 hr)) rg_notInQ (SE.o (se_b1 (r := rRepr K) (call_repr (u66 hr) gd) rg_repr E.n_repr (by decide +kernel) (so_var 4))) (SE.o (se_lc (own := [("_law_far_here", 6)]) rfl sc_law_is_plan.nd (si_seq (K := K) (SO.fz (so_var 0))) (blkOk_by (N := N_law_is_plan) (sc := defScope s_law_is_plan) (own := [("_law_far_here", 6)]) (by decide +kernel)) (fun i hi => hp i (by revert i; decide)) (by decide) (fun _ _ _ _ _ => (sg_name sc_law_is_plan.nd (hp 6 (by decide)))) (fun _ _ _ _ _ => stl_nil) (fun _ _ _ _ _ => se_b1 (r := rRepr K) (call_repr (u66 hr) gd) rg_repr E.n_repr (by decide +kernel) (so_var 6)))) (by rfl)) (sw_or1 (st_cmp (r := rNeD K) (op_neD (u64 hr)) rg_ne (SE.o (se_ix (K := K) (so_var 4) (SE.o (se_int)))) (so_var 3) (nomark _))))) (sb_one (ss_ret (se_bl))) sb_nil) (sb_one (ss_set sc_law_is_plan.nd (hp 3 (by decide)) (se_ix (K := K) (so_var 4) (SE.o (se_int)))))))) (sb_one (ss_ret (so_cmp (r := rEqD K) (op_eqD (u64 hr)) rg_eq (so_var 3) (so_var 1) (nomark _)))))))⟩⟩
abbrev N_is_question : List Str := ["value"]
theorem sc_is_question : FnScope N_is_question ["value"] (defScope s_is_question) := ⟨rfl, rfl, rfl, by decide +kernel, rfl, by decide +kernel, by decide +kernel⟩
theorem bd_is_question : BindT "is_question" s_is_question ["value"] := fun _ _ _ _ _ _ us hl => match us, hl with | [_], _ => rfl
noncomputable def F_is_question : Fs := (fRet (fAndV (fCall m_is_word (fCons (fFz (fP 0)) fNil) [none]) (fBin gLe (fE (fUn gLen (fP 0))) (fE (fC (.int 24))))))
noncomputable def m_is_question : Mir := runM [false] N_is_question F_is_question
theorem ok_is_question {f : Addr} {fd : FuncData} (E : Env K mg) (c_is_word : Cal P w K mg base "is_word" s_is_word 1 ["value"] m_is_word) (hm : mg "is_question" = some (.ref f)) (F : FunD K "is_question" "is_question" (defArgs s_is_question) (defBody s_is_question) (defScope s_is_question) [] [] f fd) : Cal P w K mg base "is_question" s_is_question 2 ["value"] m_is_question :=
  ⟨f, fd, hm, F, mk_run (k := 1) F sc_is_question [false] F_is_question fun cdv A outer s H EE pin gd hr hp => ⟨_, (sb_one (ss_ret (se_and (se_call (K := K) c_is_word gd (hr.mono (by decide)) bd_is_word (sb0_cons (SO.fz (so_var 0)) sb0_nil) (len_cons len_nil)) (se_one (so_cmp op_le rg_le (SE.o (se_b1 (r := rLenQ K) call_lenQ rg_len E.n_len PySem.boot_len (so_var 0))) (SE.o (se_gint E.c_MOST_ASKED)) (nomark _))))))⟩⟩
abbrev N_want_question : List Str := ["value"]
theorem sc_want_question : FnScope N_want_question ["value"] (defScope s_want_question) := ⟨rfl, rfl, rfl, by decide +kernel, rfl, by decide +kernel, by decide +kernel⟩
theorem bd_want_question : BindT "want_question" s_want_question ["value"] := fun _ _ _ _ _ _ us hl => match us, hl with | [_], _ => rfl
noncomputable def F_want_question : Fs := (fIfS (fNot (fB (fCall m_is_question (fCons (fFz (fP 0)) fNil) [none]))) fStuck fNext)
noncomputable def m_want_question : Mir := runM [false] N_want_question F_want_question
theorem ok_want_question {f : Addr} {fd : FuncData} (E : Env K mg) (c_is_question : Cal P w K mg base "is_question" s_is_question 2 ["value"] m_is_question) (hm : mg "want_question" = some (.ref f)) (F : FunD K "want_question" "want_question" (defArgs s_want_question) (defBody s_want_question) (defScope s_want_question) [] [] f fd) : Cal P w K mg base "want_question" s_want_question 3 ["value"] m_want_question :=
  ⟨f, fd, hm, F, mk_run (k := 2) F sc_want_question [false] F_want_question fun cdv A outer s H EE pin gd hr hp => ⟨_, (sb_one (ss_if (st_not (st_val (se_call (K := K) c_is_question gd (hr.mono (by decide)) bd_is_question (sb0_cons (SO.fz (so_var 0)) sb0_nil) (len_cons len_nil)))) (sb_one (ss_never)) sb_nil))⟩⟩
abbrev N_stands_at : List Str := ["question", "word", "place"]
theorem sc_stands_at : FnScope N_stands_at ["question", "word"] (defScope s_stands_at) := ⟨rfl, rfl, rfl, by decide +kernel, rfl, by decide +kernel, by decide +kernel⟩
theorem bd_stands_at : BindT "stands_at" s_stands_at ["question", "word"] := fun _ _ _ _ _ _ us hl => match us, hl with | [_, _], _ => rfl
noncomputable def F_stands_at : Fs := (fRet (fLc [2] (fItR1 (fCons (fBin gAdd (fE (fBin gSubI (fE (fUn gLen (fP 0))) (fE (fUn gLen (fP 1))))) (fE (fC (.int 1)))) fNil)) (gN 2) (fB (fBin gEq (fE (fSl (fP 0) (fPart (fFz (fP 2))) (fPart (fBin gAdd (fP 2) (fE (fUn gLen (fP 1))))))) (fP 1))) (fFz (fP 2))))
noncomputable def m_stands_at : Mir := runM [false, false] N_stands_at F_stands_at
theorem ok_stands_at {f : Addr} {fd : FuncData} (E : Env K mg) (hm : mg "stands_at" = some (.ref f)) (F : FunD K "stands_at" "stands_at" (defArgs s_stands_at) (defBody s_stands_at) (defScope s_stands_at) [] [] f fd) : Cal P w K mg base "stands_at" s_stands_at 1 ["question", "word"] m_stands_at :=
  ⟨f, fd, hm, F, mk_run (k := 0) F sc_stands_at [false, false] F_stands_at fun cdv A outer s H EE pin gd hr hp => ⟨_, (sb_one (ss_ret (se_lc (own := [("place", 2)]) rfl sc_stands_at.nd (si_rng1 E.n_range (sa_cons (so_op op_addQ rg_addQ (SE.o (so_op op_sub rg_sub (SE.o (se_b1 (r := rLenQ K) call_lenQ rg_len E.n_len PySem.boot_len (so_var 0))) (SE.o (se_b1 (r := rLenQ K) call_lenQ rg_len E.n_len PySem.boot_len (so_var 1))))) (SE.o (se_int))) sa_nil)) (blkOk_by (N := N_stands_at) (sc := defScope s_stands_at) (own := [("place", 2)]) (by decide +kernel)) (fun i hi => hp i (by revert i; decide)) (by decide) (fun _ _ _ _ _ => (sg_name sc_stands_at.nd (hp 2 (by decide)))) (fun _ _ _ _ _ => (stl_one (st_cmp (r := rEqD K) (op_eqD (u64 hr)) rg_eq (SE.o (se_sl (K := K) (so_var 0) (sp_some (SO.fz (so_var 2))) (sp_some (so_op op_addQ rg_addQ (so_var 2) (SE.o (se_b1 (r := rLenQ K) call_lenQ rg_len E.n_len PySem.boot_len (so_var 1))))))) (so_var 1) (nomark _)))) (fun _ _ _ _ _ => SO.fz (so_var 2)))))⟩⟩
abbrev N_bridges_by : List Str := ["words", "question", "found", "word", "place"]
theorem sc_bridges_by : FnScope N_bridges_by ["words", "question"] (defScope s_bridges_by) := ⟨rfl, rfl, rfl, by decide +kernel, rfl, by decide +kernel, by decide +kernel⟩
theorem bd_bridges_by : BindT "bridges_by" s_bridges_by ["words", "question"] := fun _ _ _ _ _ _ us hl => match us, hl with | [_, _], _ => rfl
noncomputable def F_bridges_by : Fs := (fSeq (fAsg (fLst fNil) (gN 2)) (fSeq (fFor (fItS (fFz (fP 0))) (gN 3) (fX (fExtend 2 (fLc [4] (fItS (fFz (fE (fCall m_stands_at (fCons (fFz (fP 1)) (fCons (fFz (fP 3)) fNil)) [none, none])))) (gN 4) fYes (fTup (fCons (fFz (fP 4)) (fCons (fBin gAdd (fP 4) (fE (fUn gLen (fP 3)))) (fCons (fFz (fP 3)) fNil)))))))) (fRet (fUn gSorted (fP 2)))))
noncomputable def m_bridges_by : Mir := runM [false, false] N_bridges_by F_bridges_by
theorem ok_bridges_by {f : Addr} {fd : FuncData} (E : Env K mg) (c_stands_at : Cal P w K mg base "stands_at" s_stands_at 1 ["question", "word"] m_stands_at) (hm : mg "bridges_by" = some (.ref f)) (F : FunD K "bridges_by" "bridges_by" (defArgs s_bridges_by) (defBody s_bridges_by) (defScope s_bridges_by) [] [] f fd) : Cal P w K mg base "bridges_by" s_bridges_by 2 ["words", "question"] m_bridges_by :=
  ⟨f, fd, hm, F, mk_run (k := 1) F sc_bridges_by [false, false] F_bridges_by fun cdv A outer s H EE pin gd hr hp => ⟨_, (sb_cons (ss_set sc_bridges_by.nd (hp 2 (by decide)) (se_list sa_nil)) (sb_cons (ss_for PassesOwn.never rfl (si_seq (K := K) (SO.fz (so_var 0))) (sg_name sc_bridges_by.nd (hp 3 (by decide))) (sb_one (ss_expr (se_extend (i := 2) (se_lc (own := [("place", 4)]) rfl sc_bridges_by.nd (si_seq (K := K) (SO.fz (SE.o (se_call (K := K) c_stands_at gd (hr.mono (by decide)) bd_stands_at (sb0_cons (SO.fz (so_var 1)) (sb0_cons (SO.fz (so_var 3)) sb0_nil)) (len_cons (len_cons len_nil)))))) (blkOk_by (N := N_bridges_by) (sc := defScope s_bridges_by) (own := [("place", 4)]) (by decide +kernel)) (fun i hi => hp i (by revert i; decide)) (by decide) (fun _ _ _ _ _ => (sg_name sc_bridges_by.nd (hp 4 (by decide)))) (fun _ _ _ _ _ => stl_nil) (fun _ _ _ _ _ => se_tup (sa_cons (SO.fz (so_var 4)) (sa_cons (so_op op_addQ rg_addQ (so_var 4) (SE.o (se_b1 (r := rLenQ K) call_lenQ rg_len E.n_len PySem.boot_len (so_var 3)))) (sa_cons (SO.fz (so_var 3)) sa_nil))))))))) (sb_one (ss_ret (se_b1 (r := Qy.rSorted K) (cr_sortedQ (u67 hr)) rg_sorted E.n_sorted (by decide +kernel) (so_var 2))))))⟩⟩
abbrev N_bridges_of : List Str := ["lot", "question"]
theorem sc_bridges_of : FnScope N_bridges_of ["lot", "question"] (defScope s_bridges_of) := ⟨rfl, rfl, rfl, by decide +kernel, rfl, by decide +kernel, by decide +kernel⟩
theorem bd_bridges_of : BindT "bridges_of" s_bridges_of ["lot", "question"] := fun _ _ _ _ _ _ us hl => match us, hl with | [_, _], _ => rfl
noncomputable def F_bridges_of : Fs := (fRet (fCall m_bridges_by (fCons (fUn (gFld "Lot" "own_words") (fP 0)) (fCons (fFz (fP 1)) fNil)) [none, none]))
noncomputable def m_bridges_of : Mir := runM [false, false] N_bridges_of F_bridges_of
theorem ok_bridges_of {f : Addr} {fd : FuncData} (E : Env K mg) (c_bridges_by : Cal P w K mg base "bridges_by" s_bridges_by 2 ["words", "question"] m_bridges_by) (hm : mg "bridges_of" = some (.ref f)) (F : FunD K "bridges_of" "bridges_of" (defArgs s_bridges_of) (defBody s_bridges_of) (defScope s_bridges_of) [] [] f fd) : Cal P w K mg base "bridges_of" s_bridges_of 3 ["lot", "question"] m_bridges_of :=
  ⟨f, fd, hm, F, mk_run (k := 2) F sc_bridges_of [false, false] F_bridges_of fun cdv A outer s H EE pin gd hr hp => ⟨_, (sb_one (ss_ret (se_call (K := K) c_bridges_by gd (hr.mono (by decide)) bd_bridges_by (sb0_cons (se_fldK (K := K) (cn := "Lot") E.cls_Lot E.na_Lot_own_words (so_var 0)) (sb0_cons (SO.fz (so_var 1)) sb0_nil)) (len_cons (len_cons len_nil)))))⟩⟩
abbrev N_steps_of : List Str := ["lot", "question", "found", "begin", "end", "word", "place", "some"]
theorem sc_steps_of : FnScope N_steps_of ["lot", "question"] (defScope s_steps_of) := ⟨rfl, rfl, rfl, by decide +kernel, rfl, by decide +kernel, by decide +kernel⟩
theorem bd_steps_of : BindT "steps_of" s_steps_of ["lot", "question"] := fun _ _ _ _ _ _ us hl => match us, hl with | [_, _], _ => rfl
noncomputable def F_steps_of : Fs := (fSeq (fAsg fDNew (gN 2)) (fSeq (fFor (fItS (fFz (fE (fCall m_bridges_of (fCons (fFz (fP 0)) (fCons (fFz (fP 1)) fNil)) [none, none])))) (gT 3 (gsCons (gN 3) (gsCons (gN 4) (gsCons (gN 5) gsNil)))) (fSeq (fX (fSdApp 2 (fFz (fP 3)) (fTup (fCons (fFz (fP 3)) (fCons (fFz (fP 5)) (fCons (fFz (fP 4)) fNil)))))) (fX (fSdApp 2 (fFz (fP 4)) (fTup (fCons (fFz (fP 4)) (fCons (fFz (fP 5)) (fCons (fFz (fP 3)) fNil)))))))) (fRet (fDcI [6, 7] 2 (gT 2 (gsCons (gN 6) (gsCons (gN 7) gsNil))) fYes (fFz (fP 6)) (fFz (fE (fUn gSorted (fP 7))))))))
noncomputable def m_steps_of : Mir := runM [false, false] N_steps_of F_steps_of
theorem ok_steps_of {f : Addr} {fd : FuncData} (E : Env K mg) (c_bridges_of : Cal P w K mg base "bridges_of" s_bridges_of 3 ["lot", "question"] m_bridges_of) (hm : mg "steps_of" = some (.ref f)) (F : FunD K "steps_of" "steps_of" (defArgs s_steps_of) (defBody s_steps_of) (defScope s_steps_of) [] [] f fd) : Cal P w K mg base "steps_of" s_steps_of 4 ["lot", "question"] m_steps_of :=
  ⟨f, fd, hm, F, mk_run (k := 3) F sc_steps_of [false, false] F_steps_of fun cdv A outer s H EE pin gd hr hp => ⟨_, (sb_cons (ss_set sc_steps_of.nd (hp 2 (by decide)) (se_dnew)) (sb_cons (ss_for PassesOwn.never rfl (si_seq (K := K) (SO.fz (SE.o (se_call (K := K) c_bridges_of gd (hr.mono (by decide)) bd_bridges_of (sb0_cons (SO.fz (so_var 0)) (sb0_cons (SO.fz (so_var 1)) sb0_nil)) (len_cons (len_cons len_nil)))))) (sg_tup (K := K) rfl (sgs_cons (sg_name sc_steps_of.nd (hp 3 (by decide))) (sgs_cons (sg_name sc_steps_of.nd (hp 4 (by decide))) (sgs_cons (sg_name sc_steps_of.nd (hp 5 (by decide))) sgs_nil)))) (sb_cons (ss_expr (se_sdApp (i := 2) (SO.fz (so_var 3)) (se_tup (sa_cons (SO.fz (so_var 3)) (sa_cons (SO.fz (so_var 5)) (sa_cons (SO.fz (so_var 4)) sa_nil)))))) (sb_one (ss_expr (se_sdApp (i := 2) (SO.fz (so_var 4)) (se_tup (sa_cons (SO.fz (so_var 4)) (sa_cons (SO.fz (so_var 5)) (sa_cons (SO.fz (so_var 3)) sa_nil))))))))) (sb_one (ss_ret (se_dcI (own := [("place", 6), ("some", 7)]) (i := 2) rfl sc_steps_of.nd (blkOk_by (N := N_steps_of) (sc := defScope s_steps_of) (own := [("place", 6), ("some", 7)]) (by decide +kernel)) (fun i hi => hp i (by revert i; decide)) (by decide) (fun _ _ _ _ _ => (sg_tup (K := K) rfl (sgs_cons (sg_name sc_steps_of.nd (hp 6 (by decide))) (sgs_cons (sg_name sc_steps_of.nd (hp 7 (by decide))) sgs_nil)))) (fun _ _ _ _ _ => stl_nil) (fun _ _ _ _ _ => SO.fz (so_var 6)) (fun _ _ _ _ _ => SO.fz (SE.o (se_b1 (r := Qy.rSorted K) (cr_sortedQ (u67 hr)) rg_sorted E.n_sorted (by decide +kernel) (so_var 7)))))))))⟩⟩
abbrev N_is_integer : List Str := ["value"]
theorem sc_is_integer : FnScope N_is_integer ["value"] (defScope s_is_integer) := ⟨rfl, rfl, rfl, by decide +kernel, rfl, by decide +kernel, by decide +kernel⟩
theorem bd_is_integer : BindT "is_integer" s_is_integer ["value"] := fun _ _ _ _ _ _ us hl => match us, hl with | [_], _ => rfl
noncomputable def F_is_integer : Fs := (fRet (fAndV (fBin gIsi (fP 0) (fE (fC (.raw (.ty "int"))))) (fUn gNotV (fE (fBin gIsi (fP 0) (fE (fC (.raw (.ty "bool")))))))))
noncomputable def m_is_integer : Mir := runM [false] N_is_integer F_is_integer
theorem ok_is_integer {f : Addr} {fd : FuncData} (E : Env K mg) (hm : mg "is_integer" = some (.ref f)) (F : FunD K "is_integer" "is_integer" (defArgs s_is_integer) (defBody s_is_integer) (defScope s_is_integer) [] [] f fd) : Cal P w K mg base "is_integer" s_is_integer 1 ["value"] m_is_integer :=
  ⟨f, fd, hm, F, mk_run (k := 0) F sc_is_integer [false] F_is_integer fun cdv A outer s H EE pin gd hr hp => ⟨_, (sb_one (ss_ret (se_and (se_b2 (r := rIsi K) call_isi rg_isi E.n_isinstance (by decide +kernel) (so_var 0) (SE.o (se_ty (n := "int") E.n_int (by decide +kernel)))) (se_one (so_not (SE.o (se_b2 (r := rIsi K) call_isi rg_isi E.n_isinstance (by decide +kernel) (so_var 0) (SE.o (se_ty (n := "bool") E.n_bool (by decide +kernel))))))))))⟩⟩
abbrev N_is_count : List Str := ["value"]
theorem sc_is_count : FnScope N_is_count ["value"] (defScope s_is_count) := ⟨rfl, rfl, rfl, by decide +kernel, rfl, by decide +kernel, by decide +kernel⟩
theorem bd_is_count : BindT "is_count" s_is_count ["value"] := fun _ _ _ _ _ _ us hl => match us, hl with | [_], _ => rfl
noncomputable def F_is_count : Fs := (fRet (fAndV (fCall m_is_integer (fCons (fFz (fP 0)) fNil) [none]) (fBin gGe (fP 0) (fE (fC (.int 0))))))
noncomputable def m_is_count : Mir := runM [false] N_is_count F_is_count
theorem ok_is_count {f : Addr} {fd : FuncData} (E : Env K mg) (c_is_integer : Cal P w K mg base "is_integer" s_is_integer 1 ["value"] m_is_integer) (hm : mg "is_count" = some (.ref f)) (F : FunD K "is_count" "is_count" (defArgs s_is_count) (defBody s_is_count) (defScope s_is_count) [] [] f fd) : Cal P w K mg base "is_count" s_is_count 2 ["value"] m_is_count :=
  ⟨f, fd, hm, F, mk_run (k := 1) F sc_is_count [false] F_is_count fun cdv A outer s H EE pin gd hr hp => ⟨_, (sb_one (ss_ret (se_and (se_call (K := K) c_is_integer gd (hr.mono (by decide)) bd_is_integer (sb0_cons (SO.fz (so_var 0)) sb0_nil) (len_cons len_nil)) (se_one (so_cmp op_ge rg_ge (so_var 0) (SE.o (se_int)) (nomark _))))))⟩⟩
abbrev N_is_step : List Str := ["steps", "value"]
theorem sc_is_step : FnScope N_is_step ["steps", "value"] (defScope s_is_step) := ⟨rfl, rfl, rfl, by decide +kernel, rfl, by decide +kernel, by decide +kernel⟩
theorem bd_is_step : BindT "is_step" s_is_step ["steps", "value"] := fun _ _ _ _ _ _ us hl => match us, hl with | [_, _], _ => rfl
noncomputable def F_is_step : Fs := (fSeq (fIfS (fOr (fNot (fB (fBin gIsi (fP 1) (fE (fC (.raw (.ty "tuple"))))))) (fOr (fB (fBin gNe (fE (fUn gLen (fP 1))) (fE (fC (.int 3))))) (fOr (fNot (fB (fCall m_is_count (fCons (fBin gIx (fP 1) (fE (fC (.int 0)))) fNil) [none]))) (fNot (fB (fCall m_is_count (fCons (fBin gIx (fP 1) (fE (fC (.int 2)))) fNil) [none])))))) (fRet (fC (.bl false))) fNext) (fRet (fBin gInQ (fE (fFz (fP 1))) (fE (fGet2 (fP 0) (fBin gIx (fP 1) (fE (fC (.int 0)))) (fLst fNil))))))
noncomputable def m_is_step : Mir := runM [false, false] N_is_step F_is_step
theorem ok_is_step {f : Addr} {fd : FuncData} (E : Env K mg) (c_is_count : Cal P w K mg base "is_count" s_is_count 2 ["value"] m_is_count) (hm : mg "is_step" = some (.ref f)) (F : FunD K "is_step" "is_step" (defArgs s_is_step) (defBody s_is_step) (defScope s_is_step) [] [] f fd) : Cal P w K mg base "is_step" s_is_step 3 ["steps", "value"] m_is_step :=
  ⟨f, fd, hm, F, mk_run (k := 2) F sc_is_step [false, false] F_is_step fun cdv A outer s H EE pin gd hr hp => ⟨_, (sb_cons (ss_if (SW.st (sw_or (st_not (st_val (se_b2 (r := rIsi K) call_isi rg_isi E.n_isinstance (by decide +kernel) (so_var 1) (SE.o (se_ty (n := "tuple") E.n_tuple (by decide +kernel)))))) (sw_or (st_cmp (r := rNeD K) (op_neD (u64 hr)) rg_ne (SE.o (se_b1 (r := rLenQ K) call_lenQ rg_len E.n_len PySem.boot_len (so_var 1))) (SE.o (se_int)) (nomark _)) (sw_or (st_not (st_val (se_call (K := K) c_is_count gd (hr.mono (by decide)) bd_is_count (sb0_cons (se_ix (K := K) (so_var 1) (SE.o (se_int))) sb0_nil) (len_cons len_nil)))) (sw_or1 (st_not (st_val (se_call (K := K) c_is_count gd (hr.mono (by decide)) bd_is_count (sb0_cons (se_ix (K := K) (so_var 1) (SE.o (se_int))) sb0_nil) (len_cons len_nil))))))))) (sb_one (ss_ret (se_bl))) sb_nil) (sb_one (ss_ret (so_cmp (r := rInQ K) (op_inQ (u65 hr)) rg_inQ (SE.o (SO.fz (so_var 1))) (SE.o (se_get2 (u1 hr) (so_var 0) (se_ix (K := K) (so_var 1) (SE.o (se_int))) (se_list sa_nil))) (by rfl)))))⟩⟩
abbrev N_is_plan_of : List Str := ["lot", "question", "value", "steps", "here", "step"]
theorem sc_is_plan_of : FnScope N_is_plan_of ["lot", "question", "value"] (defScope s_is_plan_of) := ⟨rfl, rfl, rfl, by decide +kernel, rfl, by decide +kernel, by decide +kernel⟩
theorem bd_is_plan_of : BindT "is_plan_of" s_is_plan_of ["lot", "question", "value"] := fun _ _ _ _ _ _ us hl => match us, hl with | [_, _, _], _ => rfl
noncomputable def F_is_plan_of : Fs := (fSeq (fIfS (fNot (fB (fCall m_is_list (fCons (fFz (fP 2)) fNil) [none]))) (fRet (fC (.bl false))) fNext) (fSeq (fPar (fCons (fCall m_steps_of (fCons (fFz (fP 0)) (fCons (fFz (fP 1)) fNil)) [none, none]) (fCons (fC (.int 0)) fNil)) (gs2 3 4)) (fSeq (fFor (fItS (fFz (fP 2))) (gN 5) (fSeq (fIfS (fOr (fNot (fB (fCall m_is_step (fCons (fFz (fP 3)) (fCons (fFz (fP 5)) fNil)) [none, none]))) (fB (fBin gNe (fE (fBin gIx (fP 5) (fE (fC (.int 0))))) (fP 4)))) (fRet (fC (.bl false))) fNext) (fAsg (fBin gIx (fP 5) (fE (fC (.int 2)))) (gN 4)))) (fRet (fBin gEq (fP 4) (fE (fUn gLen (fP 1))))))))
noncomputable def m_is_plan_of : Mir := runM [false, false, false] N_is_plan_of F_is_plan_of
theorem ok_is_plan_of {f : Addr} {fd : FuncData} (E : Env K mg) (c_is_step : Cal P w K mg base "is_step" s_is_step 3 ["steps", "value"] m_is_step) (c_steps_of : Cal P w K mg base "steps_of" s_steps_of 4 ["lot", "question"] m_steps_of) (c_is_list : Cal P w K mg base "is_list" s_is_list 1 ["value"] m_is_list) (hm : mg "is_plan_of" = some (.ref f)) (F : FunD K "is_plan_of" "is_plan_of" (defArgs s_is_plan_of) (defBody s_is_plan_of) (defScope s_is_plan_of) [] [] f fd) : Cal P w K mg base "is_plan_of" s_is_plan_of 5 ["lot", "question", "value"] m_is_plan_of :=
  ⟨f, fd, hm, F, mk_run (k := 4) F sc_is_plan_of [false, false, false] F_is_plan_of fun cdv A outer s H EE pin gd hr hp => ⟨_, (sb_cons (ss_if (st_not (st_val (se_call (K := K) c_is_list gd (hr.mono (by decide)) bd_is_list (sb0_cons (SO.fz (so_var 2)) sb0_nil) (len_cons len_nil)))) (sb_one (ss_ret (se_bl))) sb_nil) (sb_cons (ss_par2 (i := 3) (j := 4) rfl sc_is_plan_of.nd (hp 3 (by decide)) (hp 4 (by decide)) (by decide) (sa_cons (se_call (K := K) c_steps_of gd (hr.mono (by decide)) bd_steps_of (sb0_cons (SO.fz (so_var 0)) (sb0_cons (SO.fz (so_var 1)) sb0_nil)) (len_cons (len_cons len_nil))) (sa_cons (se_int) sa_nil))) (sb_cons (ss_for PassesOwn.never rfl (si_seq (K := K) (SO.fz (so_var 2))) (sg_name sc_is_plan_of.nd (hp 5 (by decide))) (sb_cons (ss_if (SW.st (sw_or (st_not (st_val (se_call (K := K) c_is_step gd (hr.mono (by decide)) bd_is_step (sb0_cons (SO.fz (so_var 3)) (sb0_cons (SO.fz (so_var 5)) sb0_nil)) (len_cons (len_cons len_nil))))) (sw_or1 (st_cmp (r := rNeD K) (op_neD (u64 hr)) rg_ne (SE.o (se_ix (K := K) (so_var 5) (SE.o (se_int)))) (so_var 4) (nomark _))))) (sb_one (ss_ret (se_bl))) sb_nil) (sb_one (ss_set sc_is_plan_of.nd (hp 4 (by decide)) (se_ix (K := K) (so_var 5) (SE.o (se_int))))))) (sb_one (ss_ret (so_cmp (r := rEqD K) (op_eqD (u64 hr)) rg_eq (so_var 4) (SE.o (se_b1 (r := rLenQ K) call_lenQ rg_len E.n_len PySem.boot_len (so_var 1))) (nomark _)))))))⟩⟩
abbrev N_is_plan : List Str := ["lot", "question", "value"]
theorem sc_is_plan : FnScope N_is_plan ["lot", "question", "value"] (defScope s_is_plan) := ⟨rfl, rfl, rfl, by decide +kernel, rfl, by decide +kernel, by decide +kernel⟩
theorem bd_is_plan : BindT "is_plan" s_is_plan ["lot", "question", "value"] := fun _ _ _ _ _ _ us hl => match us, hl with | [_, _, _], _ => rfl
noncomputable def F_is_plan : Fs := (fSeq (fX (fCall m_want_question (fCons (fFz (fP 1)) fNil) [none])) (fRet (fCall m_is_plan_of (fCons (fFz (fP 0)) (fCons (fFz (fP 1)) (fCons (fFz (fP 2)) fNil))) [none, none, none])))
noncomputable def m_is_plan : Mir := runM [false, false, false] N_is_plan F_is_plan
theorem ok_is_plan {f : Addr} {fd : FuncData} (E : Env K mg) (c_is_plan_of : Cal P w K mg base "is_plan_of" s_is_plan_of 5 ["lot", "question", "value"] m_is_plan_of) (c_want_question : Cal P w K mg base "want_question" s_want_question 3 ["value"] m_want_question) (hm : mg "is_plan" = some (.ref f)) (F : FunD K "is_plan" "is_plan" (defArgs s_is_plan) (defBody s_is_plan) (defScope s_is_plan) [] [] f fd) : Cal P w K mg base "is_plan" s_is_plan 6 ["lot", "question", "value"] m_is_plan :=
  ⟨f, fd, hm, F, mk_run (k := 5) F sc_is_plan [false, false, false] F_is_plan fun cdv A outer s H EE pin gd hr hp => ⟨_, (sb_cons (ss_expr (se_call (K := K) c_want_question gd (hr.mono (by decide)) bd_want_question (sb0_cons (SO.fz (so_var 1)) sb0_nil) (len_cons len_nil))) (sb_one (ss_ret (se_call (K := K) c_is_plan_of gd (hr.mono (by decide)) bd_is_plan_of (sb0_cons (SO.fz (so_var 0)) (sb0_cons (SO.fz (so_var 1)) (sb0_cons (SO.fz (so_var 2)) sb0_nil))) (len_cons (len_cons (len_cons len_nil)))))))⟩⟩
abbrev N_law_judged : List Str := ["_law_lot", "_law_asked_here", "_law_steps_all", "_law_thing", "_law_shown", "_law_due", "_law_told"]
theorem sc_law_judged : FnScope N_law_judged ["_law_lot", "_law_asked_here", "_law_steps_all", "_law_thing"] (defScope s_law_judged) := ⟨rfl, rfl, rfl, by decide +kernel, rfl, by decide +kernel, by decide +kernel⟩
theorem bd_law_judged : BindT "_law_judged" s_law_judged ["_law_lot", "_law_asked_here", "_law_steps_all", "_law_thing"] := fun _ _ _ _ _ _ us hl => match us, hl with | [_, _, _, _], _ => rfl
noncomputable def F_law_judged : Fs := (fSeq (fPar (fCons (fUn gReprQ (fP 3)) (fCons (fCall m_law_is_plan (fCons (fFz (fP 2)) (fCons (fUn gLen (fP 1)) (fCons (fFz (fP 3)) fNil))) [none, none, none]) fNil)) (gs2 4 5)) (fSeq (fAsg (fLst (fCons (fFz (fE (fCall m_is_plan (fCons (fFz (fP 0)) (fCons (fFz (fP 1)) (fCons (fFz (fP 3)) fNil))) [none, none, none]))) (fCons (fFz (fE (fCallK m_is_plan [2, 1, 0] (fCons (fFz (fP 3)) (fCons (fFz (fP 1)) (fCons (fFz (fP 0)) fNil)))))) fNil))) (gN 6)) (fRet (fAndV (fBin gEq (fE (fUn gReprQ (fP 6))) (fE (fUn gReprQ (fE (fLst (fCons (fFz (fP 5)) (fCons (fFz (fP 5)) fNil))))))) (fBin gEq (fE (fUn gReprQ (fP 3))) (fP 4))))))
noncomputable def m_law_judged : Mir := runM [false, false, false, false] N_law_judged F_law_judged
theorem ok_law_judged {f : Addr} {fd : FuncData} (E : Env K mg) (c_is_plan : Cal P w K mg base "is_plan" s_is_plan 6 ["lot", "question", "value"] m_is_plan) (c_law_is_plan : Cal P w K mg base "_law_is_plan" s_law_is_plan 1 ["_law_steps_all", "_law_last", "_law_thing"] m_law_is_plan) (hm : mg "_law_judged" = some (.ref f)) (F : FunD K "_law_judged" "_law_judged" (defArgs s_law_judged) (defBody s_law_judged) (defScope s_law_judged) [] [] f fd) : Cal P w K mg base "_law_judged" s_law_judged 7 ["_law_lot", "_law_asked_here", "_law_steps_all", "_law_thing"] m_law_judged :=
  ⟨f, fd, hm, F, mk_run (k := 6) F sc_law_judged [false, false, false, false] F_law_judged fun cdv A outer s H EE pin gd hr hp => ⟨_, (sb_cons (ss_par2 (i := 4) (j := 5) rfl sc_law_judged.nd (hp 4 (by decide)) (hp 5 (by decide)) (by decide) (sa_cons (se_b1 (r := rReprQ K) (cr_reprQ (u66 hr) gd) rg_reprQ E.n_repr (by decide +kernel) (so_var 3)) (sa_cons (se_call (K := K) c_law_is_plan gd (hr.mono (by decide)) bd_law_is_plan (sb0_cons (SO.fz (so_var 2)) (sb0_cons (se_b1 (r := rLenQ K) call_lenQ rg_len E.n_len PySem.boot_len (so_var 1)) (sb0_cons (SO.fz (so_var 3)) sb0_nil))) (len_cons (len_cons (len_cons len_nil)))) sa_nil))) (sb_cons (ss_set sc_law_judged.nd (hp 6 (by decide)) (se_list (sa_cons (SO.fz (SE.o (se_call (K := K) c_is_plan gd (hr.mono (by decide)) bd_is_plan (sb0_cons (SO.fz (so_var 0)) (sb0_cons (SO.fz (so_var 1)) (sb0_cons (SO.fz (so_var 3)) sb0_nil))) (len_cons (len_cons (len_cons len_nil)))))) (sa_cons (SO.fz (SE.o (se_callK (K := K) c_is_plan gd (hr.mono (by decide)) (kb_mk (ks := ["value", "question", "lot"]) (π := [2, 1, 0]) (by decide) (fun _ _ _ _ _ _ ws hl => match ws, hl with | [_, _, _], _ => rfl)) (sk_cons (SO.fz (so_var 3)) (sk_cons (SO.fz (so_var 1)) (sk_cons (SO.fz (so_var 0)) sk_nil))) (len_cons (len_cons (len_cons len_nil))) (by decide)))) sa_nil)))) (sb_one (ss_ret (se_and (so_cmp (r := rEqD K) (op_eqD (u64 hr)) rg_eq (SE.o (se_b1 (r := rReprQ K) (cr_reprQ (u66 hr) gd) rg_reprQ E.n_repr (by decide +kernel) (so_var 6))) (SE.o (se_b1 (r := rReprQ K) (cr_reprQ (u66 hr) gd) rg_reprQ E.n_repr (by decide +kernel) (SE.o (se_list (sa_cons (SO.fz (so_var 5)) (sa_cons (SO.fz (so_var 5)) sa_nil)))))) (nomark _)) (se_one (so_cmp (r := rEqD K) (op_eqD (u64 hr)) rg_eq (SE.o (se_b1 (r := rReprQ K) (cr_reprQ (u66 hr) gd) rg_reprQ E.n_repr (by decide +kernel) (so_var 3))) (so_var 4) (nomark _))))))))⟩⟩
abbrev N_law_right : List Str := ["_law_pot_here", "_law_turn", "_law_terms_here", "_law_asked_here", "_law_lot", "_law_steps_all", "_law_found_here", "_law_some", "_law_once", "_law_thing"]
theorem sc_law_right : FnScope N_law_right ["_law_pot_here"] (defScope s_law_right) := ⟨rfl, rfl, rfl, by decide +kernel, rfl, by decide +kernel, by decide +kernel⟩
theorem bd_law_right : BindT "_law_right" s_law_right ["_law_pot_here"] := fun _ _ _ _ _ _ us hl => match us, hl with | [_], _ => rfl
noncomputable def F_law_right : Fs := (fSeq (fFor (fItR1 (fCons (fC (.int 4)) fNil)) (gN 1) (fSeq (fAsg (fCall m_law_scene (fLend 0 fNil) [some 0]) (gT 2 (gsCons (gN 2) (gsCons (gN 3) gsNil)))) (fSeq (fPar (fCons (fMake "Lot" m_Lot_init (fCons (fFz (fP 2)) fNil) [none]) (fCons (fCall m_law_steps (fCons (fFz (fP 2)) (fCons (fFz (fP 3)) fNil)) [none, none]) fNil)) (gsCons (gN 4) (gsCons (gN 5) gsNil))) (fSeq (fAsg (fCall m_law_gone (fLend 0 (fCons (fFz (fP 5)) (fCons (fUn gLen (fP 3)) fNil))) [some 0, none, none]) (gN 6)) (fSeq (fAsg (fLst (fCons (fFz (fP 6)) (fCons (fUn gTuple (fP 6)) (fCons (fC .non) (fCons (fC (.int 0)) (fCons (fC (.str "")) (fCons (fFz (fE fDNew)) (fCons (fFz (fE (fLst fNil))) (fCons (fTup fNil) (fCons (fC (.bl true)) (fCons (fFz (fE (fLst (fCons (fC .non) fNil)))) (fCons (fFz (fE (fLst (fCons (fTup fNil) fNil)))) (fCons (fFz (fE (fLst (fCons (fFz (fE (fLst fNil))) fNil)))) (fCons (fFz (fE (fSl (fP 6) fNoPart (fPart (fUn gNeg (fE (fC (.int 1)))))))) (fCons (fFz (fE (fBin gAdd (fE (fFz (fP 6))) (fP 6)))) fNil))))))))))))))) (gN 7)) (fSeq (fFor (fItR1 (fCons (fC (.int 8)) fNil)) (gN 8) (fIfS (fB (fBin gNe (fP 6) (fE (fLst fNil)))) (fX (fAppend 7 (fFz (fE (fCall m_law_bent (fLend 0 (fCons (fFz (fP 5)) (fCons (fFz (fP 6)) fNil))) [some 0, none, none]))))) fNext)) (fIfS (fNot (fB (fUn gAll (fE (fLc [9] (fItS (fFz (fP 7))) (gN 9) fYes (fFz (fE (fCall m_law_judged (fCons (fFz (fP 4)) (fCons (fFz (fP 3)) (fCons (fFz (fP 5)) (fCons (fFz (fP 9)) fNil)))) [none, none, none, none])))))))) (fRet (fC (.bl false))) fNext))))))) (fRet (fC (.bl true))))
noncomputable def m_law_right : Mir := runM [true] N_law_right F_law_right
theorem ok_law_right {f : Addr} {fd : FuncData} (E : Env K mg) (c_law_judged : Cal P w K mg base "_law_judged" s_law_judged 7 ["_law_lot", "_law_asked_here", "_law_steps_all", "_law_thing"] m_law_judged) (c_law_bent : Cal P w K mg base "_law_bent" s_law_bent 3 ["_law_pot_here", "_law_steps_all", "_law_found_here"] m_law_bent) (c_law_gone : Cal P w K mg base "_law_gone" s_law_gone 3 ["_law_pot_here", "_law_steps_all", "_law_last"] m_law_gone) (c_law_steps : Cal P w K mg base "_law_steps" s_law_steps 3 ["_law_terms_here", "_law_asked_here"] m_law_steps) (c_Lot_init : CalM P w K mg base "Lot" "__init__" 3 ["self", "words"] m_Lot_init) (c_law_scene : Cal P w K mg base "_law_scene" s_law_scene 5 ["_law_pot_here"] m_law_scene) (hm : mg "_law_right" = some (.ref f)) (F : FunD K "_law_right" "_law_right" (defArgs s_law_right) (defBody s_law_right) (defScope s_law_right) [] [] f fd) : Cal P w K mg base "_law_right" s_law_right 8 ["_law_pot_here"] m_law_right :=
  ⟨f, fd, hm, F, mk_run (k := 7) F sc_law_right [true] F_law_right fun cdv A outer s H EE pin gd hr hp => ⟨_, (sb_cons (ss_for PassesOwn.never rfl (si_rng1 E.n_range (sa_cons (se_int) sa_nil)) (sg_name sc_law_right.nd (hp 1 (by decide))) (sb_cons (ss_asg (se_call (K := K) c_law_scene gd (hr.mono (by decide)) bd_law_scene (sb0_lend 0 sb0_nil) (len_lend len_nil)) (sg_tup (K := K) rfl (sgs_cons (sg_name sc_law_right.nd (hp 2 (by decide))) (sgs_cons (sg_name sc_law_right.nd (hp 3 (by decide))) sgs_nil)))) (sb_cons (ss_parT rfl (sa_cons (se_make (K := K) E.mk_Lot c_Lot_init gd (hr.mono (by decide)) (sb0_cons (SO.fz (so_var 2)) sb0_nil) (len_succ (len_cons len_nil))) (sa_cons (se_call (K := K) c_law_steps gd (hr.mono (by decide)) bd_law_steps (sb0_cons (SO.fz (so_var 2)) (sb0_cons (SO.fz (so_var 3)) sb0_nil)) (len_cons (len_cons len_nil))) sa_nil)) (sgs_cons (sg_name sc_law_right.nd (hp 4 (by decide))) (sgs_cons (sg_name sc_law_right.nd (hp 5 (by decide))) sgs_nil)) (len_cons (len_cons len_nil)) (by decide)) (sb_cons (ss_set sc_law_right.nd (hp 6 (by decide)) (se_call (K := K) c_law_gone gd (hr.mono (by decide)) bd_law_gone (sb0_lend 0 (sb0_cons (SO.fz (so_var 5)) (sb0_cons (se_b1 (r := rLenQ K) call_lenQ rg_len E.n_len PySem.boot_len (so_var 3)) sb0_nil))) (len_lend (len_cons (len_cons len_nil))))) (sb_cons (ss_set sc_law_right.nd (hp 7 (by decide)) (se_list (sa_cons (SO.fz (so_var 6)) (sa_cons (se_t1 (r := rTupleQ K) call_tupleQ rg_tuple E.n_tuple (by decide +kernel) (so_var 6)) (sa_cons (se_non) (sa_cons (se_int) (sa_cons (se_str) (sa_cons (SO.fz (SE.o (se_dnew))) (sa_cons (SO.fz (SE.o (se_list sa_nil))) (sa_cons (se_tup sa_nil) (sa_cons (se_bl) (sa_cons (SO.fz (SE.o (se_list (sa_cons (se_non) sa_nil)))) (sa_cons (SO.fz (SE.o (se_list (sa_cons (se_tup sa_nil) sa_nil)))) (sa_cons (SO.fz (SE.o (se_list (sa_cons (SO.fz (SE.o (se_list sa_nil))) sa_nil)))) (sa_cons (SO.fz (SE.o (se_sl (K := K) (so_var 6) sp_none (sp_some (so_un un_neg rg_neg (SE.o (se_int))))))) (sa_cons (SO.fz (SE.o (so_op op_addQ rg_addQ (SE.o (SO.fz (so_var 6))) (so_var 6)))) sa_nil)))))))))))))))) (sb_cons (ss_for PassesOwn.never rfl (si_rng1 E.n_range (sa_cons (se_int) sa_nil)) (sg_name sc_law_right.nd (hp 8 (by decide))) (sb_one (ss_if (st_cmp (r := rNeD K) (op_neD (u64 hr)) rg_ne (so_var 6) (SE.o (se_list sa_nil)) (nomark _)) (sb_one (ss_expr (se_append (i := 7) (SO.fz (SE.o (se_call (K := K) c_law_bent gd (hr.mono (by decide)) bd_law_bent (sb0_lend 0 (sb0_cons (SO.fz (so_var 5)) (sb0_cons (SO.fz (so_var 6)) sb0_nil))) (len_lend (len_cons (len_cons len_nil))))))))) sb_nil))) (sb_one (ss_if (st_not (st_val (se_b1 (r := rAll K) (cr_all rfl) rg_all E.n_all (by decide +kernel) (SE.o (se_lc (own := [("_law_thing", 9)]) rfl sc_law_right.nd (si_seq (K := K) (SO.fz (so_var 7))) (blkOk_by (N := N_law_right) (sc := defScope s_law_right) (own := [("_law_thing", 9)]) (by decide +kernel)) (fun i hi => hp i (by revert i; decide)) (by decide) (fun _ _ _ _ _ => (sg_name sc_law_right.nd (hp 9 (by decide)))) (fun _ _ _ _ _ => stl_nil) (fun _ _ _ _ _ => SO.fz (SE.o (se_call (K := K) c_law_judged gd (hr.mono (by decide)) bd_law_judged (sb0_cons (SO.fz (so_var 4)) (sb0_cons (SO.fz (so_var 3)) (sb0_cons (SO.fz (so_var 5)) (sb0_cons (SO.fz (so_var 9)) sb0_nil)))) (len_cons (len_cons (len_cons (len_cons len_nil)))))))))))) (sb_one (ss_ret (se_bl))) sb_nil)))))))) (sb_one (ss_ret (se_bl))))⟩⟩
abbrev N_law_pot : List Str := ["_law_script", "_law_k", "_law_seed"]
theorem sc_law_pot : FnScope N_law_pot ["_law_script", "_law_k"] (defScope s_law_pot) := ⟨rfl, rfl, rfl, by decide +kernel, rfl, by decide +kernel, by decide +kernel⟩
theorem bd_law_pot : BindT "_law_pot" s_law_pot ["_law_script", "_law_k"] := fun _ _ _ _ _ _ us hl => match us, hl with | [_, _], _ => rfl
noncomputable def F_law_pot : Fs := (fSeq (fAsg (fBin gAdd (fE (fBin gMul (fE (fC (.int 59))) (fP 1))) (fE (fC (.int 43)))) (gN 2)) (fSeq (fIfS (fB (fBin gLt (fP 1) (fE (fUn gLen (fP 0))))) (fAsg (fUn gAbs (fE (fBin gIx (fP 0) (fP 1)))) (gN 2)) fNext) (fRet (fLst (fCons (fBin gMax2 (fE (fC (.int 0))) (fE (fBin gSubI (fP 2) (fE (fBin gPow (fE (fC (.int 10))) (fE (fC (.int 18)))))))) (fCons (fBin gAdd (fE (fBin gMod (fE (fBin gMul (fE (fUn gInt (fE (fBin gAdd (fE (fBin gMod (fE (fUn gInt (fP 2))) (fE (fC (.int 2147483549))))) (fE (fC (.int 41))))))) (fE (fBin gPow (fE (fBin gAdd (fE (fBin gMul (fE (fC (.int 2))) (fP 1))) (fE (fC (.int 5))))) (fE (fC (.int 3))))))) (fE (fC (.int 2147483579))))) (fE (fC (.int 1)))) fNil))))))
noncomputable def m_law_pot : Mir := runM [false, false] N_law_pot F_law_pot
theorem ok_law_pot {f : Addr} {fd : FuncData} (E : Env K mg) (hm : mg "_law_pot" = some (.ref f)) (F : FunD K "_law_pot" "_law_pot" (defArgs s_law_pot) (defBody s_law_pot) (defScope s_law_pot) [] [] f fd) : Cal P w K mg base "_law_pot" s_law_pot 1 ["_law_script", "_law_k"] m_law_pot :=
  ⟨f, fd, hm, F, mk_run (k := 0) F sc_law_pot [false, false] F_law_pot fun cdv A outer s H EE pin gd hr hp => ⟨_, (sb_cons (ss_set sc_law_pot.nd (hp 2 (by decide)) (so_op op_addQ rg_addQ (SE.o (so_op op_mul rg_mul (SE.o (se_int)) (so_var 1))) (SE.o (se_int)))) (sb_cons (ss_if (st_cmp (r := rLtQ K) (op_ltQ (u0 hr)) rg_ltQ (so_var 1) (SE.o (se_b1 (r := rLenQ K) call_lenQ rg_len E.n_len PySem.boot_len (so_var 0))) (nomark _)) (sb_one (ss_set sc_law_pot.nd (hp 2 (by decide)) (se_b1 call_abs rg_abs E.n_abs (by decide +kernel) (SE.o (se_ix (K := K) (so_var 0) (so_var 1)))))) sb_nil) (sb_one (ss_ret (se_list (sa_cons (se_b2 (call_max2 rfl) rg_max2 E.n_max (by decide +kernel) (SE.o (se_int)) (SE.o (so_op op_sub rg_sub (so_var 2) (SE.o (so_op op_pow rg_pow (SE.o (se_int)) (SE.o (se_int))))))) (sa_cons (so_op op_addQ rg_addQ (SE.o (so_op op_mod rg_mod (SE.o (so_op op_mul rg_mul (SE.o (se_t1 call_int1 rg_int E.n_int (by decide +kernel) (SE.o (so_op op_addQ rg_addQ (SE.o (so_op op_mod rg_mod (SE.o (se_t1 call_int1 rg_int E.n_int (by decide +kernel) (so_var 2))) (SE.o (se_int)))) (SE.o (se_int)))))) (SE.o (so_op op_pow rg_pow (SE.o (so_op op_addQ rg_addQ (SE.o (so_op op_mul rg_mul (SE.o (se_int)) (so_var 1))) (SE.o (se_int)))) (SE.o (se_int)))))) (SE.o (se_int)))) (SE.o (se_int))) sa_nil)))))))⟩⟩
abbrev N_law : List Str := ["_law_script", "_law_k"]
theorem sc_law : FnScope N_law ["_law_script"] (defScope s_law) := ⟨rfl, rfl, rfl, by decide +kernel, rfl, by decide +kernel, by decide +kernel⟩
theorem bd_law : BindT "law" s_law ["_law_script"] := fun _ _ _ _ _ _ us hl => match us, hl with | [_], _ => rfl
noncomputable def F_law : Fs := (fRet (fUn gAll (fE (fLc [1] (fItR1 (fCons (fBin gMax2 (fE (fC (.int 2))) (fE (fBin gMin2 (fE (fUn gLen (fP 0))) (fE (fC (.int 5)))))) fNil)) (gN 1) fYes (fFz (fE (fCall m_law_right (fCons (fCall m_law_pot (fCons (fFz (fP 0)) (fCons (fFz (fP 1)) fNil)) [none, none]) fNil) [none])))))))
noncomputable def m_law : Mir := runM [false] N_law F_law
theorem ok_law {f : Addr} {fd : FuncData} (E : Env K mg) (c_law_right : Cal P w K mg base "_law_right" s_law_right 8 ["_law_pot_here"] m_law_right) (c_law_pot : Cal P w K mg base "_law_pot" s_law_pot 1 ["_law_script", "_law_k"] m_law_pot) (hm : mg "law" = some (.ref f)) (F : FunD K "law" "law" (defArgs s_law) (defBody s_law) (defScope s_law) [] [] f fd) : Cal P w K mg base "law" s_law 9 ["_law_script"] m_law :=
  ⟨f, fd, hm, F, mk_run (k := 8) F sc_law [false] F_law fun cdv A outer s H EE pin gd hr hp => ⟨_, (sb_one (ss_ret (se_b1 (r := rAll K) (cr_all rfl) rg_all E.n_all (by decide +kernel) (SE.o (se_lc (own := [("_law_k", 1)]) rfl sc_law.nd (si_rng1 E.n_range (sa_cons (se_b2 (call_max2 rfl) rg_max2 E.n_max (by decide +kernel) (SE.o (se_int)) (SE.o (se_b2 (call_min2 rfl) rg_min2 E.n_min (by decide +kernel) (SE.o (se_b1 (r := rLenQ K) call_lenQ rg_len E.n_len PySem.boot_len (so_var 0))) (SE.o (se_int))))) sa_nil)) (blkOk_by (N := N_law) (sc := defScope s_law) (own := [("_law_k", 1)]) (by decide +kernel)) (fun i hi => hp i (by revert i; decide)) (by decide) (fun _ _ _ _ _ => (sg_name sc_law.nd (hp 1 (by decide)))) (fun _ _ _ _ _ => stl_nil) (fun _ _ _ _ _ => SO.fz (SE.o (se_call (K := K) c_law_right gd (hr.mono (by decide)) bd_law_right (sb0_cons (se_call (K := K) c_law_pot gd (hr.mono (by decide)) bd_law_pot (sb0_cons (SO.fz (so_var 0)) (sb0_cons (SO.fz (so_var 1)) sb0_nil)) (len_cons (len_cons len_nil))) sb0_nil) (len_cons len_nil)))))))))⟩⟩
end
end Lw
set_option Elab.async false
set_option linter.all false
set_option maxRecDepth 100000
set_option maxHeartbeats 400000
namespace Lw
open PySem L2 Qy
abbrev pot (p q : Int) : OD := .ol [.st (.int p), .st (.int q)]
def PotOk (o : OD) : Prop := ∃ p q : Int, o = pot p q ∧ 0 ≤ p ∧ 0 ≤ q ∧ q < 4294967296
theorem draw_ok {o : OD} {n : Int} (h : PotOk o) (hn : 0 < n) (hn2 : n < 1073741824) : ∃ d o', m_law_draw [o, .st (.int n)] = some (.st (.int d), [some o', none]) ∧ 0 ≤ d ∧ d < n ∧ PotOk o' := by
  obtain ⟨p, q, rfl, hp, hq, hq2⟩ := h
  have e1 : atI [D.int p, D.int q] 0 = some (.int p) := by rfl
  have e2 : atI [D.int p, D.int q] 1 = some (.int q) := by rfl
  by_cases hp0 : 0 < p
  · refine ⟨p % n, pot (p / n) q, ?_, Int.emod_nonneg _ (by omega), Int.emod_lt_of_pos _ hn, p / n, q, rfl, Int.ediv_nonneg hp (by omega), hq, hq2⟩
    simp [runM, rho0, outsOf, fSeq, fRet, fAsg, gN, fFz, fPeek, fBack, fDrop, fBin, fUn, fC, fCons, fNil, fLend, fCall, putBack, fIfS, fB, fNot, fAnd, fOr, fAndV, fOrV, fNext, fIf, fX, fLst, fTup, fMov, fPar, gs2, gs3, gT, gsCons, gsNil, gAdd_i, gLt_i, gSub_i, gMul_i, gDiv_i, gMod_i, gGt_i, gLe_i, gGe_i, gInt_i, gNeg_i, gAbs_i, gMax_i, gMin_i, gPow_i, gSetI, gDivmod, gIx, OD.rd, OD.val, stAll, gLen, fItS, fItR1, fFor, fLc, wipeR, fPart, fNoPart, fSl, -List.map_map,m_law_draw, F_law_draw, pot, e1, hp0, hn, hn2, ixN]
  · have q1 : 0 ≤ (q * 39979 + 15107) % 2147483543 := Int.emod_nonneg _ (by omega)
    have q2 : (q * 39979 + 15107) % 2147483543 < 2147483543 := Int.emod_lt_of_pos _ (by omega)
    have e3 : atI [D.int p, D.int ((q * 39979 + 15107) % 2147483543)] 1 = some (.int ((q * 39979 + 15107) % 2147483543)) := by rfl
    refine ⟨((q * 39979 + 15107) % 2147483543 * ((q * 39979 + 15107) % 2147483543)) % 2147483563 / 13 % n, pot p ((q * 39979 + 15107) % 2147483543), ?_, Int.emod_nonneg _ (by omega), Int.emod_lt_of_pos _ hn, p, _, rfl, hp, q1, by omega⟩
    have c1 : (-18446744073709551616 < (q * 39979 + 15107) % 2147483543 ∧ (q * 39979 + 15107) % 2147483543 < 18446744073709551616) := by omega
    simp [runM, rho0, outsOf, fSeq, fRet, fAsg, gN, fFz, fPeek, fBack, fDrop, fBin, fUn, fC, fCons, fNil, fLend, fCall, putBack, fIfS, fB, fNot, fAnd, fOr, fAndV, fOrV, fNext, fIf, fX, fLst, fTup, fMov, fPar, gs2, gs3, gT, gsCons, gsNil, gAdd_i, gLt_i, gSub_i, gMul_i, gDiv_i, gMod_i, gGt_i, gLe_i, gGe_i, gInt_i, gNeg_i, gAbs_i, gMax_i, gMin_i, gPow_i, gSetI, gDivmod, gIx, OD.rd, OD.val, stAll, gLen, fItS, fItR1, fFor, fLc, wipeR, fPart, fNoPart, fSl, -List.map_map,m_law_draw, F_law_draw, pot, e1, e2, e3, hp0, hn, hn2, ixN, c1]
/-- a thing of a list, drawn -/
theorem pick_ok {o : OD} {ds : List D} (h : PotOk o) (h0 : ds ≠ []) (hl : ds.length < 1000000) : ∃ d o', d ∈ ds ∧ m_law_pick [o, .st (.lst ds)] = some (.st d, [some o', none]) ∧ PotOk o' := by
  have hpos : 0 < ds.length := List.length_pos_iff.mpr h0
  obtain ⟨k, o', e, k0, k1, p'⟩ := draw_ok (n := (ds.length : Int)) h (by omega) (by omega)
  obtain ⟨i, rfl⟩ := Int.eq_ofNat_of_zero_le k0
  have hi : i < ds.length := by omega
  refine ⟨ds[i], o', List.getElem_mem _, ?_, p'⟩
  have e2 := atI_nat (List.getElem?_eq_getElem hi)
  simp [runM, rho0, outsOf, fSeq, fRet, fAsg, gN, fFz, fPeek, fBack, fDrop, fBin, fUn, fC, fCons, fNil, fLend, fCall, putBack, fIfS, fB, fNot, fAnd, fOr, fAndV, fOrV, fNext, fIf, fX, fLst, fTup, fMov, fPar, gs2, gs3, gT, gsCons, gsNil, gAdd_i, gLt_i, gSub_i, gMul_i, gDiv_i, gMod_i, gGt_i, gLe_i, gGe_i, gInt_i, gNeg_i, gAbs_i, gMax_i, gMin_i, gPow_i, gSetI, gDivmod, gIx, OD.rd, OD.val, stAll, gLen, fItS, fItR1, fFor, fLc, wipeR, fPart, fNoPart, fSl, -List.map_map,m_law_pick, F_law_pick, e, e2]
theorem pickS_ok {o : OD} {z : Str} (h : PotOk o) (h0 : z.cps.toList ≠ []) (hl : z.cps.size < 1000000) : ∃ c o', c ∈ z.cps.toList ∧ m_law_pick [o, .st (.str z)] = some (.st (.str ⟨#[c]⟩), [some o', none]) ∧ PotOk o' := by
  have hpos : 0 < z.cps.toList.length := List.length_pos_iff.mpr h0
  have hsz : z.cps.toList.length = z.cps.size := by simp
  have hzl : z.length = z.cps.size := rfl
  obtain ⟨k, o', e, k0, k1, p'⟩ := draw_ok (n := (z.length : Int)) h (by omega) (by omega)
  obtain ⟨i, rfl⟩ := Int.eq_ofNat_of_zero_le k0
  have hi : i < z.cps.toList.length := by omega
  refine ⟨z.cps.toList[i], o', List.getElem_mem _, ?_, p'⟩
  have e2 := atI_nat (List.getElem?_eq_getElem hi)
  have hb : z.length ≤ big := by rw [hzl]; unfold big; omega
  simp [runM, rho0, outsOf, fSeq, fRet, fAsg, gN, fFz, fPeek, fBack, fDrop, fBin, fUn, fC, fCons, fNil, fLend, fCall, putBack, fIfS, fB, fNot, fAnd, fOr, fAndV, fOrV, fNext, fIf, fX, fLst, fTup, fMov, fPar, gs2, gs3, gT, gsCons, gsNil, gAdd_i, gLt_i, gSub_i, gMul_i, gDiv_i, gMod_i, gGt_i, gLe_i, gGe_i, gInt_i, gNeg_i, gAbs_i, gMax_i, gMin_i, gPow_i, gSetI, gDivmod, gIx, OD.rd, OD.val, stAll, gLen, fItS, fItR1, fFor, fLc, wipeR, fPart, fNoPart, fSl, -List.map_map,m_law_pick, F_law_pick, e, e2, hb]
theorem flat1 : ∀ l : List Nat, (l.map fun c => [c]).flatten = l
  | [] => rfl
  | a :: r => by simp [flat1 r]
theorem sum1 : ∀ l : List Nat, (l.map fun _ => 1).sum = l.length
  | [] => rfl
  | a :: r => by rw [List.map_cons, List.sum_cons, sum1 r, List.length_cons]; omega
theorem join_ones {l : List Nat} (h : l.length ≤ big) : gJoin (.st (.str "")) (.ol (l.map fun c => .st (.str (tx [c])))) = some (.st (.str (tx l))) := by
  have e4 : strsOf (l.map fun c => D.str (tx [c])) = some ((l.map fun c => [c]).map tx) := by
    rw [← strsOf_map, List.map_map, List.map_map]
    rfl
  have e5 : stAll (l.map fun c => OD.st (.str (tx [c]))) = some (l.map fun c => D.str (tx [c])) := by
    rw [← stAll_map, List.map_map]
    rfl
  have z0 : (Str.ofString "").length = 0 := by decide +kernel
  have e6 : (((l.map fun c => [c]).map tx).map (·.length)).sum = l.length := by
    have : ((l.map fun c => [c]).map tx).map (·.length) = l.map fun _ => 1 := by
      rw [List.map_map, List.map_map]
      rfl
    rw [this, sum1]
  have e7 : OD.rd (.ol (l.map fun c => .st (.str (tx [c])))) = some (.lst (l.map fun c => D.str (tx [c]))) := by
    show (stAll _).map D.lst = _
    rw [e5]
    rfl
  unfold gJoin
  rw [e7]
  simp only [e4, e6, z0, Nat.mul_zero, Nat.add_zero, if_pos h]
  rw [join0, flat1]
/-- signs, drawn one by one -/
theorem termL_ok {z : Str} {m : OD} (h0 : z.cps.toList ≠ []) (hl : z.cps.size < 1000000) : ∀ (ds : List D) (o : OD) (l : List Nat), PotOk o → (∀ c ∈ l, c ∈ z.cps.toList) → l.length + ds.length ≤ 1000 →
    ∃ (l' : List Nat) (o' : OD), compL [3] (gN 3) fYes (fFz (fE (fCall m_law_pick (fLend 0 (fCons (fFz (fP 1)) fNil)) [some 0, none]))) ds [some o, some (.st (.str z)), some m, none] (l.map fun c => .st (.str (tx [c]))) =
      some (l'.map (fun c => .st (.str (tx [c]))), [some o', some (.st (.str z)), some m, none]) ∧ PotOk o' ∧ l'.length = l.length + ds.length ∧ ∀ c ∈ l', c ∈ z.cps.toList
  | [], o, l, hp, hz, _ => ⟨l, o, rfl, hp, by simp, hz⟩
  | d :: ds, o, l, hp, hz, hle => by
    obtain ⟨c, o1, hc, e, hp1⟩ := pickS_ok hp h0 hl
    simp only [List.length_cons] at hle
    obtain ⟨l', o', e', hp', hl', hz'⟩ := termL_ok h0 hl ds o1 (l ++ [c]) hp1 (by
      intro x hx
      rcases List.mem_append.mp hx with hx | hx
      · exact hz x hx
      · have : x = c := by simpa using hx
        subst this; exact hc) (by simp; omega)
    refine ⟨l', o', ?_, hp', by simp at hl' ⊢; omega, hz'⟩
    have hb : l.length ≤ big := by unfold big; omega
    rw [← e', compL_t (ρ1 := [some o, some (.st (.str z)), some m, some (.st d)]) (ρ2 := [some o, some (.st (.str z)), some m, some (.st d)]) (ρ3 := [some o1, some (.st (.str z)), some m, some (.st d)]) (o := .st (.str (tx [c])))]
    · simp [wipeR]
    · simp [runM, rho0, outsOf, fSeq, fRet, fAsg, gN, fFz, fPeek, fBack, fDrop, fBin, fUn, fC, fCons, fNil, fLend, fCall, putBack, fIfS, fB, fNot, fAnd, fOr, fAndV, fOrV, fNext, fIf, fX, fLst, fTup, fMov, fPar, gs2, gs3, gT, gsCons, gsNil, gAdd_i, gLt_i, gSub_i, gMul_i, gDiv_i, gMod_i, gGt_i, gLe_i, gGe_i, gInt_i, gNeg_i, gAbs_i, gMax_i, gMin_i, gPow_i, gSetI, gDivmod, gIx, OD.rd, OD.val, stAll, gLen, fItS, fItR1, fFor, fLc, wipeR, fPart, fNoPart, fSl, -List.map_map]
    · rfl
    · simp [runM, rho0, outsOf, fSeq, fRet, fAsg, gN, fFz, fPeek, fBack, fDrop, fBin, fUn, fC, fCons, fNil, fLend, fCall, putBack, fIfS, fB, fNot, fAnd, fOr, fAndV, fOrV, fNext, fIf, fX, fLst, fTup, fMov, fPar, gs2, gs3, gT, gsCons, gsNil, gAdd_i, gLt_i, gSub_i, gMul_i, gDiv_i, gMod_i, gGt_i, gLe_i, gGe_i, gInt_i, gNeg_i, gAbs_i, gMax_i, gMin_i, gPow_i, gSetI, gDivmod, gIx, OD.rd, OD.val, stAll, gLen, fItS, fItR1, fFor, fLc, wipeR, fPart, fNoPart, fSl, -List.map_map,e]
    · simpa using hb
theorem term_ok {o : OD} {z : Str} {k : Int} (hp : PotOk o) (h0 : z.cps.toList ≠ []) (hl : z.cps.size < 1000000) (hk : 0 < k) (hk2 : k ≤ 100) : ∃ l o', m_law_term [o, .st (.str z), .st (.int k)] = some (.st (.str (tx l)), [some o', none, none]) ∧ PotOk o' ∧ l ≠ [] ∧ (l.length : Int) ≤ k ∧ ∀ c ∈ l, c ∈ z.cps.toList := by
  obtain ⟨d, o1, e1, d0, d1, hp1⟩ := draw_ok hp hk (by omega)
  obtain ⟨l, o', e2, hp', hl', hz'⟩ := termL_ok (z := z) (m := .st (.int k)) h0 hl (rngD 0 (1 + d).toNat) o1 [] hp1 (fun _ z => nomatch z) (by simp [rngD]; omega)
  have hlen : l.length = (1 + d).toNat := by simpa [rngD] using hl'
  refine ⟨l, o', ?_, hp', by intro z; subst z; simp at hlen; omega, by omega, hz'⟩
  have c1 : -4611686018427387904 ≤ 1 + d ∧ 1 + d < 4611686018427387904 := by omega
  rw [List.map_nil] at e2
  have e3 := join_ones (l := l) (by unfold big; omega)
  simp [runM, rho0, outsOf, fSeq, fRet, fAsg, gN, fFz, fPeek, fBack, fDrop, fBin, fUn, fC, fCons, fNil, fLend, fCall, putBack, fIfS, fB, fNot, fAnd, fOr, fAndV, fOrV, fNext, fIf, fX, fLst, fTup, fMov, fPar, gs2, gs3, gT, gsCons, gsNil, gAdd_i, gLt_i, gSub_i, gMul_i, gDiv_i, gMod_i, gGt_i, gLe_i, gGe_i, gInt_i, gNeg_i, gAbs_i, gMax_i, gMin_i, gPow_i, gSetI, gDivmod, gIx, OD.rd, OD.val, stAll, gLen, fItS, fItR1, fFor, fLc, wipeR, fPart, fNoPart, fSl, -List.map_map,m_law_term, F_law_term, e1, c1, e2, e3]
/-- words of signs of z, none twice -/
structure Words (z : List Nat) (k : Nat) (ws : List (List Nat)) : Prop where
  nd : ws.Nodup
  ne : ∀ l ∈ ws, l ≠ []
  le : ∀ l ∈ ws, l.length ≤ k
  sg : ∀ l ∈ ws, ∀ c ∈ l, c ∈ z
theorem terms_ok {o : OD} {z : Str} {n k : Int} (hp : PotOk o) (h0 : z.cps.toList ≠ []) (hl : z.cps.size < 1000000) (hn : 0 ≤ n) (hn2 : n ≤ 1000) (hk : 0 < k) (hk2 : k ≤ 100) :
    ∃ ws o', m_law_terms [o, .st (.str z), .st (.int n), .st (.int k)] = some (wO ws, [some o', none, none, none]) ∧ PotOk o' ∧ Words z.cps.toList k.toNat ws ∧ ws.length ≤ n.toNat := by
  have c1 : -4611686018427387904 ≤ n ∧ n < 4611686018427387904 := by omega
  have lp := loopF_inv (tg := gN 5) (body := fSeq (fAsg (fCall m_law_term (fLend 0 (fCons (fFz (fP 1)) (fCons (fFz (fP 3)) fNil))) [some 0, none, none]) (gN 6)) (fX (fExtend 4 (fIf (fB (fBin gNotInQ (fP 6) (fP 4))) (fLst (fCons (fFz (fP 6)) fNil)) (fLst fNil)))))
    (I := fun i ρ => ∃ o ws s5 s6, PotOk o ∧ Words z.cps.toList k.toNat ws ∧ ws.length ≤ i ∧ ρ = [some o, some (.st (.str z)), some (.st (.int n)), some (.st (.int k)), some (wO ws), s5, s6])
    (ds := rngD 0 n.toNat) (i := 0) (ρ := [some o, some (.st (.str z)), some (.st (.int n)), some (.st (.int k)), some (wO []), none, none])
    ⟨o, [], none, none, hp, ⟨.nil, (fun _ z => nomatch z), (fun _ z => nomatch z), fun _ z => nomatch z⟩, Nat.le_refl _, rfl⟩ (by
      rintro j d ρ hd ⟨o1, ws, s5, s6, hp1, hw, hwl, rfl⟩
      have hj : j < n.toNat := by
        have := (List.getElem?_eq_some_iff.mp hd).1
        simpa [rngD] using this
      obtain ⟨l, o2, e, hp2, l0, l1, l2⟩ := term_ok hp1 h0 hl hk hk2
      have hb : ws.length + 1 ≤ big := by unfold big; omega
      have hb0 : ws.length ≤ big := by omega
      have big1 : 1 ≤ big := by decide
      have hni : gNotInQ (.st (.str (tx l))) (wO ws) = some (.st (.bl (!decide (l ∈ ws)))) := notIn_w (seq_wO ws)
      refine ⟨[some o1, some (.st (.str z)), some (.st (.int n)), some (.st (.int k)), some (wO ws), some (.st d), s6], [some o2, some (.st (.str z)), some (.st (.int n)), some (.st (.int k)), some (wO (if l ∈ ws then ws else ws ++ [l])), some (.st d), some (.st (.str (tx l)))], by simp [runM, rho0, outsOf, fSeq, fRet, fAsg, gN, fFz, fPeek, fBack, fDrop, fBin, fUn, fC, fCons, fNil, fLend, fCall, putBack, fIfS, fB, fNot, fAnd, fOr, fAndV, fOrV, fNext, fIf, fX, fLst, fTup, fMov, fPar, gs2, gs3, gT, gsCons, gsNil, gAdd_i, gLt_i, gSub_i, gMul_i, gDiv_i, gMod_i, gGt_i, gLe_i, gGe_i, gInt_i, gNeg_i, gAbs_i, gMax_i, gMin_i, gPow_i, gSetI, gDivmod, gIx, OD.rd, OD.val, stAll, gLen, fItS, fItR1, fFor, fLc, wipeR, fPart, fNoPart, fSl, -List.map_map], ?_, o2, _, _, _, hp2, ?_, ?_, rfl⟩
      · by_cases hm : l ∈ ws
        · simp [runM, rho0, outsOf, fSeq, fRet, fAsg, gN, fFz, fPeek, fBack, fDrop, fBin, fUn, fC, fCons, fNil, fLend, fCall, putBack, fIfS, fB, fNot, fAnd, fOr, fAndV, fOrV, fNext, fIf, fX, fLst, fTup, fMov, fPar, gs2, gs3, gT, gsCons, gsNil, gAdd_i, gLt_i, gSub_i, gMul_i, gDiv_i, gMod_i, gGt_i, gLe_i, gGe_i, gInt_i, gNeg_i, gAbs_i, gMax_i, gMin_i, gPow_i, gSetI, gDivmod, gIx, OD.rd, OD.val, stAll, gLen, fItS, fItR1, fFor, fLc, wipeR, fPart, fNoPart, fSl, -List.map_map,e, hni, hm, fExtend, hb0]
        · simp [runM, rho0, outsOf, fSeq, fRet, fAsg, gN, fFz, fPeek, fBack, fDrop, fBin, fUn, fC, fCons, fNil, fLend, fCall, putBack, fIfS, fB, fNot, fAnd, fOr, fAndV, fOrV, fNext, fIf, fX, fLst, fTup, fMov, fPar, gs2, gs3, gT, gsCons, gsNil, gAdd_i, gLt_i, gSub_i, gMul_i, gDiv_i, gMod_i, gGt_i, gLe_i, gGe_i, gInt_i, gNeg_i, gAbs_i, gMax_i, gMin_i, gPow_i, gSetI, gDivmod, gIx, OD.rd, OD.val, stAll, gLen, fItS, fItR1, fFor, fLc, wipeR, fPart, fNoPart, fSl, -List.map_map,e, hni, hm, fExtend, big1, hb]
      · by_cases hm : l ∈ ws
        · rw [if_pos hm]; exact hw
        · rw [if_neg hm]
          refine ⟨?_, ?_, ?_, ?_⟩
          · rw [List.nodup_append]
            exact ⟨hw.nd, by simp, fun a ha b hb => by
              have : b = l := by simpa using hb
              subst this
              rintro rfl
              exact hm ha⟩
          all_goals
            intro x hx
            rcases List.mem_append.mp hx with hx | hx
          · exact hw.ne x hx
          · have : x = l := by simpa using hx
            subst this; exact l0
          · exact hw.le x hx
          · have : x = l := by simpa using hx
            subst this; omega
          · exact hw.sg x hx
          · have : x = l := by simpa using hx
            subst this; exact l2
      · by_cases hm : l ∈ ws
        · rw [if_pos hm]; omega
        · rw [if_neg hm]; simp; omega)
  obtain ⟨ρ', e1, o', ws, s5, s6, hp', hw, hwl, rfl⟩ := lp
  refine ⟨ws, o', ?_, hp', hw, by simpa [rngD] using hwl⟩
  have e2 : wO [] = .ol [] := rfl
  rw [e2] at e1
  simp [runM, rho0, outsOf, fSeq, fRet, fAsg, gN, fFz, fPeek, fBack, fDrop, fBin, fUn, fC, fCons, fNil, fLend, fCall, putBack, fIfS, fB, fNot, fAnd, fOr, fAndV, fOrV, fNext, fIf, fX, fLst, fTup, fMov, fPar, gs2, gs3, gT, gsCons, gsNil, gAdd_i, gLt_i, gSub_i, gMul_i, gDiv_i, gMod_i, gGt_i, gLe_i, gGe_i, gInt_i, gNeg_i, gAbs_i, gMax_i, gMin_i, gPow_i, gSetI, gDivmod, gIx, OD.rd, OD.val, stAll, gLen, fItS, fItR1, fFor, fLc, wipeR, fPart, fNoPart, fSl, -List.map_map,m_law_terms, F_law_terms, c1, e1]
theorem cut_tx (w : List Nat) (lo hi : Option Int) : ∃ v, cutS (tx w) lo hi = tx v ∧ v.length ≤ w.length ∧ (∀ c ∈ v, c ∈ w) := by
  refine ⟨_, rfl, ?_, fun c hc => ?_⟩
  · simp [List.length_take, List.length_drop]
    omega
  · have := List.mem_of_mem_drop (List.mem_of_mem_take hc)
    simpa using this
theorem tx_app (a b : List Nat) : tx a ++ tx b = tx (a ++ b) := by
  show (⟨a.toArray ++ b.toArray⟩ : Str) = _
  simp [tx]
theorem asked_ok {o : OD} {z : Str} {ws : List (List Nat)} {k : Int} {A : Nat → Prop} (hp : PotOk o) (h0 : z.cps.toList ≠ []) (hl : z.cps.size < 1000000) (hz : ∀ c ∈ z.cps.toList, A c) (hw : ∀ w ∈ ws, w ≠ [] ∧ w.length ≤ 12 ∧ ∀ c ∈ w, A c) (hwl : ws.length < 1000000) (hA0 : ∀ c, A c → c < 1114112) (hk : 1 ≤ k) (hk2 : k ≤ 100) :
    ∃ l o', m_law_asked [o, .st (.lst (wD ws)), .st (.str z), .st (.int k)] = some (.st (.str (tx l)), [some o', none, none, none]) ∧ PotOk o' ∧ l ≠ [] ∧ ((l.length : Int) ≤ k ∨ l.length ≤ 3) ∧ ∀ c ∈ l, A c := by
  obtain ⟨d, o1, e1, d0, d1, hp1⟩ := draw_ok (n := 6) hp (by omega) (by omega)
  have c1 : -4611686018427387904 ≤ 1 + d ∧ 1 + d < 4611686018427387904 := by omega
  have big72 : ∀ n, n ≤ 1000 → n ≤ big := fun n h => by unfold big; omega
  have lp := loopF_inv (tg := gN 5) (body := (fSeq (fAsg (fIf (fAnd (fB (fBin gNe (fP 1) (fE (fLst fNil)))) (fB (fBin gGt (fE (fCall m_law_draw (fLend 0 (fCons (fC (.int 4)) fNil)) [some 0, none])) (fE (fC (.int 0)))))) (fCall m_law_pick (fLend 0 (fCons (fFz (fP 1)) fNil)) [some 0, none]) (fCall m_law_term (fLend 0 (fCons (fFz (fP 2)) (fCons (fC (.int 2)) fNil))) [some 0, none, none])) (gN 6)) (fAsg (fBin gAdd (fP 4) (fE (fSl (fE (fFz (fP 6))) (fPart (fBin gMul (fE (fCall m_law_draw (fLend 0 (fCons (fC (.int 2)) fNil)) [some 0, none])) (fE (fCall m_law_draw (fLend 0 (fCons (fUn gLen (fP 6)) fNil)) [some 0, none])))) fNoPart))) (gN 4))))
    (I := fun i ρ => ∃ o l s5 s6, PotOk o ∧ (∀ c ∈ l, A c) ∧ l.length ≤ 12 * i ∧ ρ = [some o, some (.st (.lst (wD ws))), some (.st (.str z)), some (.st (.int k)), some (.st (.str (tx l))), s5, s6])
    (ds := rngD 0 (1 + d).toNat) (i := 0) (ρ := [some o1, some (.st (.lst (wD ws))), some (.st (.str z)), some (.st (.int k)), some (.st (.str (tx []))), none, none])
    ⟨o1, [], none, none, hp1, (fun _ z => nomatch z), Nat.le_refl _, rfl⟩ (by
      rintro j dd ρ hd ⟨o1, l, s5, s6, hp1, hA, hll, rfl⟩
      have hj : j < 6 := by
        have := (List.getElem?_eq_some_iff.mp hd).1
        simp [rngD] at this
        omega
      -- the piece that is put on
      have key : ∃ w o2, w ≠ [] ∧ w.length ≤ 12 ∧ (∀ c ∈ w, A c) ∧ PotOk o2 ∧ (fIf (fAnd (fB (fBin gNe (fP 1) (fE (fLst fNil)))) (fB (fBin gGt (fE (fCall m_law_draw (fLend 0 (fCons (fC (.int 4)) fNil)) [some 0, none])) (fE (fC (.int 0)))))) (fCall m_law_pick (fLend 0 (fCons (fFz (fP 1)) fNil)) [some 0, none]) (fCall m_law_term (fLend 0 (fCons (fFz (fP 2)) (fCons (fC (.int 2)) fNil))) [some 0, none, none]))
          [some o1, some (.st (.lst (wD ws))), some (.st (.str z)), some (.st (.int k)), some (.st (.str (tx l))), some (.st dd), s6] = some (.st (.str (tx w)), [some o2, some (.st (.lst (wD ws))), some (.st (.str z)), some (.st (.int k)), some (.st (.str (tx l))), some (.st dd), s6]) := by
        have term2 : ∀ o2, PotOk o2 → ∃ w o3, w ≠ [] ∧ w.length ≤ 12 ∧ (∀ c ∈ w, A c) ∧ PotOk o3 ∧ m_law_term [o2, .st (.str z), .st (.int 2)] = some (.st (.str (tx w)), [some o3, none, none]) := fun o2 hp2 => by
          obtain ⟨w, o3, e, hp3, w0, w1, w2⟩ := term_ok (k := 2) hp2 h0 hl (by omega) (by omega)
          exact ⟨w, o3, w0, by omega, fun c hc => hz c (w2 c hc), hp3, e⟩
        by_cases hws : ws = []
        · obtain ⟨w, o3, w0, w1, w2, w3, e⟩ := term2 o1 hp1
          refine ⟨w, o3, w0, w1, w2, w3, ?_⟩
          have hne : gNe (.st (.lst (wD ws))) (.ol []) = some (.st (.bl false)) := by rw [neL fun l hl c hc => hA0 c ((hw l hl).2.2 c hc)]; simp [hws]
          clear hws
          simp [runM, rho0, outsOf, fSeq, fRet, fAsg, gN, fFz, fPeek, fBack, fDrop, fBin, fUn, fC, fCons, fNil, fLend, fCall, putBack, fIfS, fB, fNot, fAnd, fOr, fAndV, fOrV, fNext, fIf, fX, fLst, fTup, fMov, fPar, gs2, gs3, gT, gsCons, gsNil, gAdd_i, gLt_i, gSub_i, gMul_i, gDiv_i, gMod_i, gGt_i, gLe_i, gGe_i, gInt_i, gNeg_i, gAbs_i, gMax_i, gMin_i, gPow_i, gSetI, gDivmod, gIx, OD.rd, OD.val, stAll, gLen, fItS, fItR1, fFor, fLc, wipeR, fPart, fNoPart, fSl, -List.map_map,hne, e]
        · obtain ⟨d4, o4, e4, d40, d41, hp4⟩ := draw_ok (n := 4) hp1 (by omega) (by omega)
          have hne : gNe (.st (.lst (wD ws))) (.ol []) = some (.st (.bl true)) := by rw [neL fun l hl c hc => hA0 c ((hw l hl).2.2 c hc)]; simp [hws]
          by_cases hd4 : 0 < d4
          · obtain ⟨dw, o5, hm, e5, hp5⟩ := pick_ok (ds := wD ws) hp4 (by simpa [wD] using hws) (by simpa [wD] using hwl)
            obtain ⟨w, hw1, rfl⟩ := List.mem_map.mp hm
            refine ⟨w, o5, (hw w hw1).1, (hw w hw1).2.1, (hw w hw1).2.2, hp5, ?_⟩
            simp [runM, rho0, outsOf, fSeq, fRet, fAsg, gN, fFz, fPeek, fBack, fDrop, fBin, fUn, fC, fCons, fNil, fLend, fCall, putBack, fIfS, fB, fNot, fAnd, fOr, fAndV, fOrV, fNext, fIf, fX, fLst, fTup, fMov, fPar, gs2, gs3, gT, gsCons, gsNil, gAdd_i, gLt_i, gSub_i, gMul_i, gDiv_i, gMod_i, gGt_i, gLe_i, gGe_i, gInt_i, gNeg_i, gAbs_i, gMax_i, gMin_i, gPow_i, gSetI, gDivmod, gIx, OD.rd, OD.val, stAll, gLen, fItS, fItR1, fFor, fLc, wipeR, fPart, fNoPart, fSl, -List.map_map,hne, e4, hd4, e5]
          · obtain ⟨w, o5, w0, w1, w2, w3, e5⟩ := term2 o4 hp4
            refine ⟨w, o5, w0, w1, w2, w3, ?_⟩
            simp [runM, rho0, outsOf, fSeq, fRet, fAsg, gN, fFz, fPeek, fBack, fDrop, fBin, fUn, fC, fCons, fNil, fLend, fCall, putBack, fIfS, fB, fNot, fAnd, fOr, fAndV, fOrV, fNext, fIf, fX, fLst, fTup, fMov, fPar, gs2, gs3, gT, gsCons, gsNil, gAdd_i, gLt_i, gSub_i, gMul_i, gDiv_i, gMod_i, gGt_i, gLe_i, gGe_i, gInt_i, gNeg_i, gAbs_i, gMax_i, gMin_i, gPow_i, gSetI, gDivmod, gIx, OD.rd, OD.val, stAll, gLen, fItS, fItR1, fFor, fLc, wipeR, fPart, fNoPart, fSl, -List.map_map,hne, e4, hd4, e5]
      obtain ⟨w, o2, w0, w1, w2, hp2, ek⟩ := key
      obtain ⟨d2, o3, e3, d20, d21, hp3⟩ := draw_ok (n := 2) hp2 (by omega) (by omega)
      have hwp : 0 < w.length := List.length_pos_iff.mpr w0
      obtain ⟨d5, o5, e5, d50, d51, hp5⟩ := draw_ok (n := (w.length : Int)) hp3 (by omega) (by omega)
      obtain ⟨v, evl, vl, vm⟩ := cut_tx w (some (d2 * d5)) none
      have lb : (tx w).length ≤ big := by rw [tx_len]; exact big72 _ (by omega)
      have ha : gAdd (.st (.str (tx l))) (.st (.str (tx v))) = some (.st (.str (tx (l ++ v)))) := by
        rw [gAdd_s (by rw [tx_len, tx_len]; exact big72 _ (by omega))]
        rw [tx_app]
      have cm : (-18446744073709551616 < d2 ∧ d2 < 18446744073709551616) := by omega
      refine ⟨[some o1, some (.st (.lst (wD ws))), some (.st (.str z)), some (.st (.int k)), some (.st (.str (tx l))), some (.st dd), s6], [some o5, some (.st (.lst (wD ws))), some (.st (.str z)), some (.st (.int k)), some (.st (.str (tx (l ++ v)))), some (.st dd), some (.st (.str (tx w)))], by simp [runM, rho0, outsOf, fSeq, fRet, fAsg, gN, fFz, fPeek, fBack, fDrop, fBin, fUn, fC, fCons, fNil, fLend, fCall, putBack, fIfS, fB, fNot, fAnd, fOr, fAndV, fOrV, fNext, fIf, fX, fLst, fTup, fMov, fPar, gs2, gs3, gT, gsCons, gsNil, gAdd_i, gLt_i, gSub_i, gMul_i, gDiv_i, gMod_i, gGt_i, gLe_i, gGe_i, gInt_i, gNeg_i, gAbs_i, gMax_i, gMin_i, gPow_i, gSetI, gDivmod, gIx, OD.rd, OD.val, stAll, gLen, fItS, fItR1, fFor, fLc, wipeR, fPart, fNoPart, fSl, -List.map_map], ?_, o5, l ++ v, _, _, hp5, ?_, ?_, rfl⟩
      · simp only [fSeq, fAsg, ek]
        have lb2 : w.length ≤ big := by rw [← tx_len w]; exact lb
        simp [runM, rho0, outsOf, fSeq, fRet, fAsg, gN, fFz, fPeek, fBack, fDrop, fBin, fUn, fC, fCons, fNil, fLend, fCall, putBack, fIfS, fB, fNot, fAnd, fOr, fAndV, fOrV, fNext, fIf, fX, fLst, fTup, fMov, fPar, gs2, gs3, gT, gsCons, gsNil, gAdd_i, gLt_i, gSub_i, gMul_i, gDiv_i, gMod_i, gGt_i, gLe_i, gGe_i, gInt_i, gNeg_i, gAbs_i, gMax_i, gMin_i, gPow_i, gSetI, gDivmod, gIx, OD.rd, OD.val, stAll, gLen, fItS, fItR1, fFor, fLc, wipeR, fPart, fNoPart, fSl, -List.map_map,e3, tx_len, e5, cm, gSl, lb2, evl, ha]
      · intro c hc
        rcases List.mem_append.mp hc with hc | hc
        · exact hA c hc
        · exact w2 c (vm c hc)
      · simp; omega)
  obtain ⟨ρ', e2, o2, l, s5, s6, hp2, hA, hll, rfl⟩ := lp
  have hs : Sm l := fun c hc => hA0 c (hA c hc)
  have hne : gNe (.st (.str (tx l))) (.st (.str "")) = some (.st (.bl (!decide (l = [])))) := by
    have := neS (b := []) hs (fun _ z => nomatch z)
    rw [← str0] at this
    exact this
  have hll2 : l.length ≤ 72 := by
    simp [rngD] at hll
    omega
  rw [← str0] at e2
  by_cases hl0 : l = []
  · obtain ⟨w, o3, e3, hp3, w0, w1, w2⟩ := term_ok (k := 3) hp2 h0 hl (by omega) (by omega)
    have hne' : gNe (.st (.str (tx l))) (.st (.str "")) = some (.st (.bl false)) := by rw [hne]; simp [hl0]
    clear hl0
    refine ⟨w, o3, ?_, hp3, w0, by omega, fun c hc => hz c (w2 c hc)⟩
    simp [runM, rho0, outsOf, fSeq, fRet, fAsg, gN, fFz, fPeek, fBack, fDrop, fBin, fUn, fC, fCons, fNil, fLend, fCall, putBack, fIfS, fB, fNot, fAnd, fOr, fAndV, fOrV, fNext, fIf, fX, fLst, fTup, fMov, fPar, gs2, gs3, gT, gsCons, gsNil, gAdd_i, gLt_i, gSub_i, gMul_i, gDiv_i, gMod_i, gGt_i, gLe_i, gGe_i, gInt_i, gNeg_i, gAbs_i, gMax_i, gMin_i, gPow_i, gSetI, gDivmod, gIx, OD.rd, OD.val, stAll, gLen, fItS, fItR1, fFor, fLc, wipeR, fPart, fNoPart, fSl, -List.map_map,m_law_asked, F_law_asked, e1, c1, e2, hne', e3]
  · have hne' : gNe (.st (.str (tx l))) (.st (.str "")) = some (.st (.bl true)) := by rw [hne]; simp [hl0]
    have lb : l.length ≤ big := big72 _ (by omega)
    have ec : cutS (tx l) none (some k) = tx (l.take k.toNat) := by
      obtain ⟨n, rfl⟩ := Int.eq_ofNat_of_zero_le (show 0 ≤ k by omega)
      show (⟨((l.drop 0).take (HT.sIx l.length l.length (some (n : Int)) - 0)).toArray⟩ : Str) = _
      rw [HT.sIx_nat, List.drop_zero, Nat.sub_zero]
      congr 2
      simp
    refine ⟨l.take k.toNat, o2, ?_, hp2, ?_, ?_, fun c hc => hA c (List.mem_of_mem_take hc)⟩
    · simp [runM, rho0, outsOf, fSeq, fRet, fAsg, gN, fFz, fPeek, fBack, fDrop, fBin, fUn, fC, fCons, fNil, fLend, fCall, putBack, fIfS, fB, fNot, fAnd, fOr, fAndV, fOrV, fNext, fIf, fX, fLst, fTup, fMov, fPar, gs2, gs3, gT, gsCons, gsNil, gAdd_i, gLt_i, gSub_i, gMul_i, gDiv_i, gMod_i, gGt_i, gLe_i, gGe_i, gInt_i, gNeg_i, gAbs_i, gMax_i, gMin_i, gPow_i, gSetI, gDivmod, gIx, OD.rd, OD.val, stAll, gLen, fItS, fItR1, fFor, fLc, wipeR, fPart, fNoPart, fSl, -List.map_map,m_law_asked, F_law_asked, e1, c1, e2, hne', gSl, tx_len, lb, ec]
    · intro z
      have h1 := congrArg List.length z
      rw [List.length_take, List.length_nil] at h1
      have h2 : 0 < l.length := List.length_pos_iff.mpr hl0
      omega
    · rw [List.length_take]
      omega
end Lw
set_option Elab.async false
set_option linter.all false
set_option maxRecDepth 100000
set_option maxHeartbeats 400000
namespace Lw
open PySem L2 Qy
/-- the small letters -/
def Low (l : List Nat) : Prop := ∀ c ∈ l, 97 ≤ c ∧ c ≤ 122
theorem small_mem {c : Nat} (h : 97 ≤ c ∧ c ≤ 122) : c ∈ (Str.ofString "abcdefghijklmnopqrstuvwxyz").cps.toList := by
  have e : (Str.ofString "abcdefghijklmnopqrstuvwxyz").cps.toList = (List.range 26).map (· + 97) := by decide +kernel
  rw [e]
  exact List.mem_map.mpr ⟨c - 97, List.mem_range.mpr (by omega), by omega⟩
theorem Low.sm {l : List Nat} (h : Low l) : Sm l := fun c hc => by have := h c hc; omega
theorem blsOf_true {α : Type} : ∀ l : List α, blsOf (l.map fun _ => D.bl true) = some (l.map fun _ => true)
  | [] => rfl
  | a :: r => by
    rw [List.map_cons, List.map_cons]
    simp only [blsOf, blsOf_true r]
    rfl
theorem all_true {α : Type} (l : List α) : gAll (.ol ((l.map fun _ => D.bl true).map .st)) = some (.st (.bl true)) := by
  have e : OD.rd (.ol ((l.map fun _ => D.bl true).map .st)) = some (.lst (l.map fun _ => D.bl true)) := by
    show (stAll _).map D.lst = _
    rw [stAll_map]
    rfl
  unfold gAll
  rw [e]
  simp only [blsOf_true, Option.map_some]
  have : (l.map fun _ => true).all id = true := List.all_eq_true.mpr fun b hb => by
    obtain ⟨_, _, rfl⟩ := List.mem_map.mp hb
    rfl
  rw [this]
theorem is_word_ok {l : List Nat} (h : Low l) (h0 : l ≠ []) (hl : l.length ≤ 1000) : m_is_word [.st (.str (tx l))] = some (.st (.bl true), [none]) := by
  have hne : gNe (.st (.str (tx l))) (.st (.str "")) = some (.st (.bl true)) := by
    have := neS (b := []) h.sm (fun _ z => nomatch z)
    rw [← str0] at this
    rw [this]
    simp [h0]
  have hc := compL_pure (own := [1]) (tg := gN 1) (tt := fYes) (te := fBin gInQ (fP 1) (fE (fC (.str "abcdefghijklmnopqrstuvwxyz")))) (ρ0 := [some (.st (.str (tx l))), none]) (p := fun _ => true) (g := fun _ => .st (.bl true)) (ds := signs (tx l)) (acc := []) (by
    intro d hd
    obtain ⟨c, hc, rfl⟩ := List.mem_map.mp hd
    have hin : gInQ (.st (.str ⟨#[c]⟩)) (.st (.str "abcdefghijklmnopqrstuvwxyz")) = some (.st (.bl true)) := by
      show gOr2 gInS _ _ _ = _
      have : gInS (.st (.str ⟨#[c]⟩)) (.st (.str "abcdefghijklmnopqrstuvwxyz")) = some (.st (.bl true)) := by
        simp only [gInS, gSS]
        have := small_mem (h c (by simpa using hc))
        simp [this]
      unfold gOr2
      rw [this]
    refine ⟨[some (.st (.str (tx l))), some (.st (.str ⟨#[c]⟩))], [some (.st (.str (tx l))), some (.st (.str ⟨#[c]⟩))], by simp [runM, rho0, outsOf, fSeq, fRet, fAsg, gN, fFz, fPeek, fBack, fDrop, fBin, fUn, fC, fCons, fNil, fLend, fCall, putBack, fIfS, fB, fNot, fAnd, fOr, fAndV, fOrV, fNext, fIf, fX, fLst, fTup, fMov, fPar, gs2, gs3, gT, gsCons, gsNil, gAdd_i, gLt_i, gSub_i, gMul_i, gDiv_i, gMod_i, gGt_i, gLe_i, gGe_i, gInt_i, gNeg_i, gAbs_i, gMax_i, gMin_i, gPow_i, gSetI, gDivmod, gIx, OD.rd, OD.val, stAll, gLen, fItS, fItR1, fFor, fLc, wipeR, fPart, fNoPart, fSl, -List.map_map], rfl, (fun z => by cases z), fun _ => ⟨[some (.st (.str (tx l))), some (.st (.str ⟨#[c]⟩))], ?_, by simp [wipeR]⟩⟩
    simp [runM, rho0, outsOf, fSeq, fRet, fAsg, gN, fFz, fPeek, fBack, fDrop, fBin, fUn, fC, fCons, fNil, fLend, fCall, putBack, fIfS, fB, fNot, fAnd, fOr, fAndV, fOrV, fNext, fIf, fX, fLst, fTup, fMov, fPar, gs2, gs3, gT, gsCons, gsNil, gAdd_i, gLt_i, gSub_i, gMul_i, gDiv_i, gMod_i, gGt_i, gLe_i, gGe_i, gInt_i, gNeg_i, gAbs_i, gMax_i, gMin_i, gPow_i, gSetI, gDivmod, gIx, OD.rd, OD.val, stAll, gLen, fItS, fItR1, fFor, fLc, wipeR, fPart, fNoPart, fSl, -List.map_map,hin]) (by simp [signs, big]; omega)
  have e1 : (List.filter (fun _ => true) (signs (tx l))).map (fun _ => OD.st (.bl true)) = ((signs (tx l)).map fun _ => D.bl true).map .st := by
    rw [List.filter_eq_self.mpr (fun _ _ => rfl), List.map_map]
    rfl
  rw [List.nil_append, e1] at hc
  have hall : gAll (.ol (((signs (tx l)).map fun _ => D.bl true).map .st)) = some (.st (.bl true)) := all_true _
  have hisi : gIsi (.st (.str (tx l))) (.st (.raw (.ty "str"))) = some (.st (.bl true)) := by
    have : kitB "str" "str" = some true := by decide +kernel
    simp [gIsi, OD.rd, tyN, this]
  simp [runM, rho0, outsOf, fSeq, fRet, fAsg, gN, fFz, fPeek, fBack, fDrop, fBin, fUn, fC, fCons, fNil, fLend, fCall, putBack, fIfS, fB, fNot, fAnd, fOr, fAndV, fOrV, fNext, fIf, fX, fLst, fTup, fMov, fPar, gs2, gs3, gT, gsCons, gsNil, gAdd_i, gLt_i, gSub_i, gMul_i, gDiv_i, gMod_i, gGt_i, gLe_i, gGe_i, gInt_i, gNeg_i, gAbs_i, gMax_i, gMin_i, gPow_i, gSetI, gDivmod, gIx, OD.rd, OD.val, stAll, gLen, fItS, fItR1, fFor, fLc, wipeR, fPart, fNoPart, fSl, -List.map_map,m_is_word, F_is_word, hne, hc, hall, hisi]
theorem is_question_ok {l : List Nat} (h : Low l) (h0 : l ≠ []) (hl : l.length ≤ 24) : m_is_question [.st (.str (tx l))] = some (.st (.bl true), [none]) := by
  have e := is_word_ok h h0 (by omega)
  have hb : l.length ≤ big := by unfold big; omega
  have h2 : (l.length : Int) ≤ 24 := by omega
  simp [runM, rho0, outsOf, fSeq, fRet, fAsg, gN, fFz, fPeek, fBack, fDrop, fBin, fUn, fC, fCons, fNil, fLend, fCall, putBack, fIfS, fB, fNot, fAnd, fOr, fAndV, fOrV, fNext, fIf, fX, fLst, fTup, fMov, fPar, gs2, gs3, gT, gsCons, gsNil, gAdd_i, gLt_i, gSub_i, gMul_i, gDiv_i, gMod_i, gGt_i, gLe_i, gGe_i, gInt_i, gNeg_i, gAbs_i, gMax_i, gMin_i, gPow_i, gSetI, gDivmod, gIx, OD.rd, OD.val, stAll, gLen, fItS, fItR1, fFor, fLc, wipeR, fPart, fNoPart, fSl, -List.map_map,m_is_question, F_is_question, e, tx_len, hb, h2]
theorem want_question_ok {l : List Nat} (h : Low l) (h0 : l ≠ []) (hl : l.length ≤ 24) : m_want_question [.st (.str (tx l))] = some (.st .non, [none]) := by
  have e := is_question_ok h h0 hl
  simp [runM, rho0, outsOf, fSeq, fRet, fAsg, gN, fFz, fPeek, fBack, fDrop, fBin, fUn, fC, fCons, fNil, fLend, fCall, putBack, fIfS, fB, fNot, fAnd, fOr, fAndV, fOrV, fNext, fIf, fX, fLst, fTup, fMov, fPar, gs2, gs3, gT, gsCons, gsNil, gAdd_i, gLt_i, gSub_i, gMul_i, gDiv_i, gMod_i, gGt_i, gLe_i, gGe_i, gInt_i, gNeg_i, gAbs_i, gMax_i, gMin_i, gPow_i, gSetI, gDivmod, gIx, OD.rd, OD.val, stAll, gLen, fItS, fItR1, fFor, fLc, wipeR, fPart, fNoPart, fSl, -List.map_map,m_want_question, F_want_question, e]
theorem is_kept_ok {l : List Nat} (h : Low l) (h0 : l ≠ []) (hl : l.length ≤ 12) : m_is_kept_word [.st (.str (tx l))] = some (.st (.bl true), [none]) := by
  have e := is_word_ok h h0 (by omega)
  have hb : l.length ≤ big := by unfold big; omega
  have h2 : (l.length : Int) ≤ 12 := by omega
  simp [runM, rho0, outsOf, fSeq, fRet, fAsg, gN, fFz, fPeek, fBack, fDrop, fBin, fUn, fC, fCons, fNil, fLend, fCall, putBack, fIfS, fB, fNot, fAnd, fOr, fAndV, fOrV, fNext, fIf, fX, fLst, fTup, fMov, fPar, gs2, gs3, gT, gsCons, gsNil, gAdd_i, gLt_i, gSub_i, gMul_i, gDiv_i, gMod_i, gGt_i, gLe_i, gGe_i, gInt_i, gNeg_i, gAbs_i, gMax_i, gMin_i, gPow_i, gSetI, gDivmod, gIx, OD.rd, OD.val, stAll, gLen, fItS, fItR1, fFor, fLc, wipeR, fPart, fNoPart, fSl, -List.map_map,m_is_kept_word, F_is_kept_word, e, tx_len, hb, h2]
/-- where w stands in q -/
def occ (q w : List Nat) : List Nat := (List.range (q.length + 1 - w.length)).filter fun p => decide ((q.drop p).take w.length = w)
theorem cut_at {q : List Nat} {p n : Nat} (h : p + n ≤ q.length) : cutS (tx q) (some (p : Int)) (some ((p : Int) + (n : Int))) = tx ((q.drop p).take n) := by
  show (⟨((q.drop (HT.sIx q.length 0 (some (p : Int)))).take (HT.sIx q.length q.length (some ((p : Int) + (n : Int))) - HT.sIx q.length 0 (some (p : Int)))).toArray⟩ : Str) = _
  rw [show ((p : Int) + (n : Int)) = ((p + n : Nat) : Int) by omega, HT.sIx_nat, HT.sIx_nat, Nat.min_eq_left h, Nat.min_eq_left (show p ≤ q.length by omega)]
  rw [show p + n - p = n by omega]
theorem stands_ok {q w : List Nat} (hq : Sm q) (hw : Sm w) (lq : q.length ≤ 1000) (lw : w.length ≤ 1000) : m_stands_at [.st (.str (tx q)), .st (.str (tx w))] = some (.ol (((occ q w).map fun (p : Nat) => D.int (p : Int)).map .st), [none, none]) := by
  have bq : q.length ≤ big := by unfold big; omega
  have bw : w.length ≤ big := by unfold big; omega
  have hc := compL_pure (own := [2]) (tg := gN 2) (tt := (fB (fBin gEq (fE (fSl (fP 0) (fPart (fFz (fP 2))) (fPart (fBin gAdd (fP 2) (fE (fUn gLen (fP 1))))))) (fP 1)))) (te := fFz (fP 2)) (ρ0 := [some (.st (.str (tx q))), some (.st (.str (tx w))), none])
    (p := fun d => match d with | .int i => decide ((q.drop i.toNat).take w.length = w) | _ => false) (g := fun d => .st d) (ds := rngD 0 (q.length + 1 - w.length)) (acc := []) (by
    intro d hd
    obtain ⟨p, hp, rfl⟩ := List.mem_map.mp hd
    have hp' := List.mem_range.mp hp
    have hle : p + w.length ≤ q.length := by omega
    have ec := cut_at (q := q) (p := p) (n := w.length) hle
    have hs : Sm ((q.drop p).take w.length) := fun c hc => hq c (List.mem_of_mem_drop (List.mem_of_mem_take hc))
    have ee := eqS hs hw
    refine ⟨[some (.st (.str (tx q))), some (.st (.str (tx w))), some (.st (.int (p : Int)))], [some (.st (.str (tx q))), some (.st (.str (tx w))), some (.st (.int (p : Int)))], by simp [runM, rho0, outsOf, fSeq, fRet, fAsg, gN, fFz, fPeek, fBack, fDrop, fBin, fUn, fC, fCons, fNil, fLend, fCall, putBack, fIfS, fB, fNot, fAnd, fOr, fAndV, fOrV, fNext, fIf, fX, fLst, fTup, fMov, fPar, gs2, gs3, gT, gsCons, gsNil, gAdd_i, gLt_i, gSub_i, gMul_i, gDiv_i, gMod_i, gGt_i, gLe_i, gGe_i, gInt_i, gNeg_i, gAbs_i, gMax_i, gMin_i, gPow_i, gSetI, gDivmod, gIx, OD.rd, OD.val, stAll, gLen, fItS, fItR1, fFor, fLc, wipeR, fPart, fNoPart, fSl, -List.map_map], ?_, fun _ => by simp [wipeR], fun _ => ⟨[some (.st (.str (tx q))), some (.st (.str (tx w))), some (.st (.int (p : Int)))], by simp [runM, rho0, outsOf, fSeq, fRet, fAsg, gN, fFz, fPeek, fBack, fDrop, fBin, fUn, fC, fCons, fNil, fLend, fCall, putBack, fIfS, fB, fNot, fAnd, fOr, fAndV, fOrV, fNext, fIf, fX, fLst, fTup, fMov, fPar, gs2, gs3, gT, gsCons, gsNil, gAdd_i, gLt_i, gSub_i, gMul_i, gDiv_i, gMod_i, gGt_i, gLe_i, gGe_i, gInt_i, gNeg_i, gAbs_i, gMax_i, gMin_i, gPow_i, gSetI, gDivmod, gIx, OD.rd, OD.val, stAll, gLen, fItS, fItR1, fFor, fLc, wipeR, fPart, fNoPart, fSl, -List.map_map], by simp [wipeR]⟩⟩
    simp [runM, rho0, outsOf, fSeq, fRet, fAsg, gN, fFz, fPeek, fBack, fDrop, fBin, fUn, fC, fCons, fNil, fLend, fCall, putBack, fIfS, fB, fNot, fAnd, fOr, fAndV, fOrV, fNext, fIf, fX, fLst, fTup, fMov, fPar, gs2, gs3, gT, gsCons, gsNil, gAdd_i, gLt_i, gSub_i, gMul_i, gDiv_i, gMod_i, gGt_i, gLe_i, gGe_i, gInt_i, gNeg_i, gAbs_i, gMax_i, gMin_i, gPow_i, gSetI, gDivmod, gIx, OD.rd, OD.val, stAll, gLen, fItS, fItR1, fFor, fLc, wipeR, fPart, fNoPart, fSl, -List.map_map,tx_len, bq, bw, gSl, ec, ee]) (by simp [rngD, big]; omega)
  have ef : ((rngD 0 (q.length + 1 - w.length)).filter fun d => match d with | .int i => decide ((q.drop i.toNat).take w.length = w) | _ => false).map OD.st = ((occ q w).map fun (p : Nat) => D.int (p : Int)).map .st := by
    unfold rngD occ
    rw [List.filter_map]
    congr 1
    have : ((fun d => match d with | D.int i => decide ((q.drop i.toNat).take w.length = w) | _ => false) ∘ fun (i : Nat) => D.int (0 + (i : Int))) = fun p => decide ((q.drop p).take w.length = w) := by
      funext p
      simp
    rw [this]
    refine List.map_congr_left fun p _ => ?_
    simp
  rw [List.nil_append, ef] at hc
  have hn : ((q.length : Int) - (w.length : Int) + 1).toNat = q.length + 1 - w.length := by omega
  have c1 : -4611686018427387904 ≤ (q.length : Int) - (w.length : Int) + 1 ∧ (q.length : Int) - (w.length : Int) + 1 < 4611686018427387904 := by omega
  simp [runM, rho0, outsOf, fSeq, fRet, fAsg, gN, fFz, fPeek, fBack, fDrop, fBin, fUn, fC, fCons, fNil, fLend, fCall, putBack, fIfS, fB, fNot, fAnd, fOr, fAndV, fOrV, fNext, fIf, fX, fLst, fTup, fMov, fPar, gs2, gs3, gT, gsCons, gsNil, gAdd_i, gLt_i, gSub_i, gMul_i, gDiv_i, gMod_i, gGt_i, gLe_i, gGe_i, gInt_i, gNeg_i, gAbs_i, gMax_i, gMin_i, gPow_i, gSetI, gDivmod, gIx, OD.rd, OD.val, stAll, gLen, fItS, fItR1, fFor, fLc, wipeR, fPart, fNoPart, fSl, -List.map_map,m_stands_at, F_stands_at, tx_len, bq, bw, c1, hn, hc]
/-- the bridges of one word, of all -/
def brs (q w : List Nat) : List D := (occ q w).map fun (p : Nat) => .tup [.int (p : Int), .int ((p : Int) + (w.length : Int)), .str (tx w)]
def raw (q : List Nat) (ws : List (List Nat)) : List D := ws.flatMap (brs q)
theorem occ_len (q w : List Nat) : (occ q w).length ≤ q.length + 1 := by
  unfold occ
  have := List.length_filter_le (fun p => decide ((q.drop p).take w.length = w)) (List.range (q.length + 1 - w.length))
  simp at this
  omega
theorem brs_comp {q w : List Nat} {a b : Option OD} (hq : q.length ≤ 1000) (lw : w.length ≤ 1000) : compL [4] (gN 4) fYes (fTup (fCons (fFz (fP 4)) (fCons (fBin gAdd (fP 4) (fE (fUn gLen (fP 3)))) (fCons (fFz (fP 3)) fNil)))) ((occ q w).map fun (p : Nat) => D.int (p : Int)) [a, some (.st (.str (tx q))), b, some (.st (.str (tx w))), none] [] =
    some ((brs q w).map .st, [a, some (.st (.str (tx q))), b, some (.st (.str (tx w))), none]) := by
  have bw : w.length ≤ big := by unfold big; omega
  have b3 : 3 ≤ big := by decide
  have hc := compL_pure (own := [4]) (tg := gN 4) (tt := fYes) (te := (fTup (fCons (fFz (fP 4)) (fCons (fBin gAdd (fP 4) (fE (fUn gLen (fP 3)))) (fCons (fFz (fP 3)) fNil))))) (ρ0 := [a, some (.st (.str (tx q))), b, some (.st (.str (tx w))), none])
    (p := fun _ => true) (g := fun d => match d with | .int i => .st (.tup [.int i, .int (i + (w.length : Int)), .str (tx w)]) | _ => .st .non) (ds := (occ q w).map fun (p : Nat) => D.int (p : Int)) (acc := []) (by
    intro d hd
    obtain ⟨p, hp, rfl⟩ := List.mem_map.mp hd
    refine ⟨[a, some (.st (.str (tx q))), b, some (.st (.str (tx w))), some (.st (.int (p : Int)))], [a, some (.st (.str (tx q))), b, some (.st (.str (tx w))), some (.st (.int (p : Int)))], by simp [runM, rho0, outsOf, fSeq, fRet, fAsg, gN, fFz, fPeek, fBack, fDrop, fBin, fUn, fC, fCons, fNil, fLend, fCall, putBack, fIfS, fB, fNot, fAnd, fOr, fAndV, fOrV, fNext, fIf, fX, fLst, fTup, fMov, fPar, gs2, gs3, gT, gsCons, gsNil, gAdd_i, gLt_i, gSub_i, gMul_i, gDiv_i, gMod_i, gGt_i, gLe_i, gGe_i, gInt_i, gNeg_i, gAbs_i, gMax_i, gMin_i, gPow_i, gSetI, gDivmod, gIx, OD.rd, OD.val, stAll, gLen, fItS, fItR1, fFor, fLc, wipeR, fPart, fNoPart, fSl, -List.map_map], rfl, (fun z => by cases z), fun _ => ⟨[a, some (.st (.str (tx q))), b, some (.st (.str (tx w))), some (.st (.int (p : Int)))], ?_, by simp [wipeR]⟩⟩
    simp [runM, rho0, outsOf, fSeq, fRet, fAsg, gN, fFz, fPeek, fBack, fDrop, fBin, fUn, fC, fCons, fNil, fLend, fCall, putBack, fIfS, fB, fNot, fAnd, fOr, fAndV, fOrV, fNext, fIf, fX, fLst, fTup, fMov, fPar, gs2, gs3, gT, gsCons, gsNil, gAdd_i, gLt_i, gSub_i, gMul_i, gDiv_i, gMod_i, gGt_i, gLe_i, gGe_i, gInt_i, gNeg_i, gAbs_i, gMax_i, gMin_i, gPow_i, gSetI, gDivmod, gIx, OD.rd, OD.val, stAll, gLen, fItS, fItR1, fFor, fLc, wipeR, fPart, fNoPart, fSl, -List.map_map,tx_len, bw, b3]) (by have := occ_len q w; simp [big]; omega)
  rw [hc]
  have e : (((occ q w).map fun (p : Nat) => D.int (p : Int)).filter fun _ => true).map (fun d => match d with | .int i => OD.st (.tup [.int i, .int (i + (w.length : Int)), .str (tx w)]) | _ => .st .non) = (brs q w).map .st := by
    rw [List.filter_eq_self.mpr (fun _ _ => rfl), List.map_map]
    unfold brs
    rw [List.map_map]
    rfl
  rw [List.nil_append, e]
theorem raw_mem {q : List Nat} {ws : List (List Nat)} {d : D} (h : d ∈ raw q ws) : ∃ (p : Nat) (w : List Nat), w ∈ ws ∧ p ∈ occ q w ∧ d = .tup [.int (p : Int), .int ((p : Int) + (w.length : Int)), .str (tx w)] := by
  obtain ⟨w, hw, h⟩ := List.mem_flatMap.mp h
  obtain ⟨p, hp, rfl⟩ := List.mem_map.mp h
  exact ⟨p, w, hw, hp, rfl⟩
theorem py3 (a b : Int) (x : Str) : (D.tup [.int a, .int b, .str x]).py = some (.tuple [.int a, .int b, .str x]) := rfl
theorem raw_sortOk (q : List Nat) (ws : List (List Nat)) : sortOk (raw q ws) := by
  have hp : ∀ d ∈ raw q ws, ∃ (a b : Int) (x : Str), pyD d = .tuple [.int a, .int b, .str x] ∧ d.py.isSome = true := fun d hd => by
    obtain ⟨p, w, _, _, rfl⟩ := raw_mem hd
    exact ⟨_, _, _, rfl, rfl⟩
  refine ⟨fun d hd => ?_, fun d hd d' hd' => ?_, .inl fun d hd => ?_, fun d hd => ?_⟩
  · obtain ⟨_, _, _, _, h⟩ := hp d hd; exact h
  · obtain ⟨e, he, rfl⟩ := List.mem_map.mp hd
    obtain ⟨e', he', rfl⟩ := List.mem_map.mp hd'
    obtain ⟨_, _, _, h, _⟩ := hp e he
    obtain ⟨_, _, _, h', _⟩ := hp e' he'
    rw [h, h']
    rfl
  · obtain ⟨e, he, rfl⟩ := List.mem_map.mp hd
    obtain ⟨_, _, _, h, _⟩ := hp e he
    exact ⟨_, _, h⟩
  · obtain ⟨_, _, _, h, _⟩ := hp d hd
    rw [h]
    show (1 : Nat) ≤ 64
    decide
theorem bridges_by_ok {q : List Nat} {ws : List (List Nat)} {o : OD} (ho : o = .st (.lst (wD ws)) ∨ o = .st (.tup (wD ws))) (hq : Sm q) (lq : q.length ≤ 100) (hw : ∀ w ∈ ws, Sm w ∧ w.length ≤ 100) (hl : ws.length ≤ 100) :
    m_bridges_by [o, .st (.str (tx q))] = some (.ol (((raw q ws).mergeSort leD).map .st), [none, none]) := by
  have lp := loopF_inv (tg := gN 3) (body := (fX (fExtend 2 (fLc [4] (fItS (fFz (fE (fCall m_stands_at (fCons (fFz (fP 1)) (fCons (fFz (fP 3)) fNil)) [none, none])))) (gN 4) fYes (fTup (fCons (fFz (fP 4)) (fCons (fBin gAdd (fP 4) (fE (fUn gLen (fP 3)))) (fCons (fFz (fP 3)) fNil))))))))
    (I := fun i ρ => ∃ s3, (raw q (ws.take i)).length ≤ 200 * i ∧ ρ = [some o, some (.st (.str (tx q))), some (.ol ((raw q (ws.take i)).map .st)), s3, none])
    (ds := wD ws) (i := 0) (ρ := [some o, some (.st (.str (tx q))), some (.ol []), none, none]) ⟨none, by simp [raw], rfl⟩ (by
      rintro j d ρ hd ⟨s3, hr, rfl⟩
      rw [Nat.zero_add] at hr ⊢
      have hj : j < ws.length := by
        have := (List.getElem?_eq_some_iff.mp hd).1
        simpa [wD] using this
      have hdw : d = .str (tx ws[j]) := by
        have e : (wD ws)[j]? = some (.str (tx ws[j])) := by simp [wD, hj]
        rw [e] at hd
        exact (Option.some.inj hd).symm
      subst hdw
      have hm : ws[j] ∈ ws := List.getElem_mem _
      have e1 := stands_ok hq (hw _ hm).1 (by omega) (by have := (hw _ hm).2; omega)
      have e2 := brs_comp (q := q) (w := ws[j]) (a := some o) (b := some (.ol ((raw q (ws.take j)).map .st))) (by omega) (by have := (hw _ hm).2; omega)
      have er : raw q (ws.take (j + 1)) = raw q (ws.take j) ++ brs q ws[j] := by
        unfold raw
        rw [← List.take_append_getElem hj, List.flatMap_append, List.flatMap_singleton]
      have lb : (brs q ws[j]).length ≤ 101 := by
        have := occ_len q ws[j]
        simp [brs]
        omega
      have hb : (raw q (ws.take j)).length + (brs q ws[j]).length ≤ big := by unfold big; omega
      refine ⟨[some o, some (.st (.str (tx q))), some (.ol ((raw q (ws.take j)).map .st)), some (.st (.str (tx ws[j]))), none], [some o, some (.st (.str (tx q))), some (.ol ((raw q (ws.take (j + 1))).map .st)), some (.st (.str (tx ws[j]))), none], by simp [runM, rho0, outsOf, fSeq, fRet, fAsg, gN, fFz, fPeek, fBack, fDrop, fBin, fUn, fC, fCons, fNil, fLend, fCall, putBack, fIfS, fB, fNot, fAnd, fOr, fAndV, fOrV, fNext, fIf, fX, fLst, fTup, fMov, fPar, gs2, gs3, gT, gsCons, gsNil, gAdd_i, gLt_i, gSub_i, gMul_i, gDiv_i, gMod_i, gGt_i, gLe_i, gGe_i, gInt_i, gNeg_i, gAbs_i, gMax_i, gMin_i, gPow_i, gSetI, gDivmod, gIx, OD.rd, OD.val, stAll, gLen, fItS, fItR1, fFor, fLc, wipeR, fPart, fNoPart, fSl, -List.map_map], ?_, _, ?_, rfl⟩
      · rw [er, List.map_append]
        have evl : valL (((occ q ws[j]).map fun (p : Nat) => D.int (p : Int)).map .st) = (occ q ws[j]).map fun (p : Nat) => D.int (p : Int) := by
          rw [valL_map, List.map_map]
          simp [Function.comp_def, OD.val]
        simp [runM, rho0, outsOf, fSeq, fRet, fAsg, gN, fFz, fPeek, fBack, fDrop, fBin, fUn, fC, fCons, fNil, fLend, fCall, putBack, fIfS, fB, fNot, fAnd, fOr, fAndV, fOrV, fNext, fIf, fX, fLst, fTup, fMov, fPar, gs2, gs3, gT, gsCons, gsNil, gAdd_i, gLt_i, gSub_i, gMul_i, gDiv_i, gMod_i, gGt_i, gLe_i, gGe_i, gInt_i, gNeg_i, gAbs_i, gMax_i, gMin_i, gPow_i, gSetI, gDivmod, gIx, OD.rd, OD.val, stAll, gLen, fItS, fItR1, fFor, fLc, wipeR, fPart, fNoPart, fSl, -List.map_map,fExtend, e1, evl, e2, hb]
      · rw [er, List.length_append]
        omega)
  obtain ⟨ρ', e1, s3, hr, rfl⟩ := lp
  have el : ws.take (0 + (wD ws).length) = ws := by rw [Nat.zero_add]; simp [wD]
  rw [el] at e1
  have hs : gSorted (.ol ((raw q ws).map .st)) = some (.ol (((raw q ws).mergeSort leD).map .st)) := by
    have e : OD.rd (.ol ((raw q ws).map .st)) = some (.lst (raw q ws)) := by
      show (stAll _).map D.lst = _
      rw [stAll_map]
      rfl
    unfold gSorted
    rw [e]
    simp only
    rw [if_pos (raw_sortOk q ws)]
  rcases ho with rfl | rfl
  · simp [runM, rho0, outsOf, fSeq, fRet, fAsg, gN, fFz, fPeek, fBack, fDrop, fBin, fUn, fC, fCons, fNil, fLend, fCall, putBack, fIfS, fB, fNot, fAnd, fOr, fAndV, fOrV, fNext, fIf, fX, fLst, fTup, fMov, fPar, gs2, gs3, gT, gsCons, gsNil, gAdd_i, gLt_i, gSub_i, gMul_i, gDiv_i, gMod_i, gGt_i, gLe_i, gGe_i, gInt_i, gNeg_i, gAbs_i, gMax_i, gMin_i, gPow_i, gSetI, gDivmod, gIx, OD.rd, OD.val, stAll, gLen, fItS, fItR1, fFor, fLc, wipeR, fPart, fNoPart, fSl, -List.map_map,m_bridges_by, F_bridges_by, e1, hs]
  · simp [runM, rho0, outsOf, fSeq, fRet, fAsg, gN, fFz, fPeek, fBack, fDrop, fBin, fUn, fC, fCons, fNil, fLend, fCall, putBack, fIfS, fB, fNot, fAnd, fOr, fAndV, fOrV, fNext, fIf, fX, fLst, fTup, fMov, fPar, gs2, gs3, gT, gsCons, gsNil, gAdd_i, gLt_i, gSub_i, gMul_i, gDiv_i, gMod_i, gGt_i, gLe_i, gGe_i, gInt_i, gNeg_i, gAbs_i, gMax_i, gMin_i, gPow_i, gSetI, gDivmod, gIx, OD.rd, OD.val, stAll, gLen, fItS, fItR1, fFor, fLc, wipeR, fPart, fNoPart, fSl, -List.map_map,m_bridges_by, F_bridges_by, e1, hs]
theorem found_eq : m_law_found = m_stands_at := rfl
theorem links_eq : m_law_links = m_bridges_by := rfl
end Lw
set_option Elab.async false
set_option linter.all false
set_option maxRecDepth 100000
set_option maxHeartbeats 400000
namespace Lw
open PySem L2 Qy
/-- a while by a state -/
theorem loopW_st {τ : Type} {c : Ft} {body : Fs} (st : τ → Rho) (I : τ → Prop) (μ : τ → Nat) (hs : ∀ x, I x → (∃ ρ1, c (st x) = some (false, ρ1)) ∨ ∃ ρ1 y, c (st x) = some (true, ρ1) ∧ body ρ1 = some (.nx (st y)) ∧ I y ∧ μ y < μ x) :
    ∀ (n : Nat) (x : τ), I x → μ x < n → ∃ y ρ', loopW c body n (st x) = some (.nx ρ') ∧ I y ∧ c (st y) = some (false, ρ')
  | 0, _, _, h => absurd h (Nat.not_lt_zero _)
  | n + 1, x, h, hm => by
    rcases hs x h with ⟨ρ1, h1⟩ | ⟨ρ1, y, h1, h2, h3, h4⟩
    · exact ⟨x, ρ1, by simp only [loopW, h1], h, h1⟩
    · obtain ⟨z, ρ', h5, h6, h7⟩ := loopW_st st I μ hs n y h3 (by omega)
      exact ⟨z, ρ', by simp only [loopW, h1, h2]; exact h5, h6, h7⟩
theorem leD_int (a b : Int) : leD (.int a) (.int b) = decide (a ≤ b) := by
  show (!PyProof.Rows.lexLt PyProof.Rows.itemOrd [Sum.inl b] [Sum.inl a]) = _
  have : PyProof.Rows.lexLt PyProof.Rows.itemOrd [Sum.inl b] [Sum.inl a] = decide (b < a) := by
    rw [PyProof.Rows.lex_cons]
    show (decide (b < a) || (!decide (a < b) && false)) = _
    simp
  rw [this]
  by_cases h : b < a
  · have : ¬ a ≤ b := by omega
    simp [h, this]
  · have : a ≤ b := by omega
    simp [h, this]
theorem sortOk_i (ks : List Int) : sortOk (iD ks) := by
  refine ⟨fun d hd => ?_, fun d hd d' hd' => ?_, .inr fun d hd => ?_, fun d hd => ?_⟩
  · obtain ⟨i, _, rfl⟩ := List.mem_map.mp hd; rfl
  · obtain ⟨e, he, rfl⟩ := List.mem_map.mp hd
    obtain ⟨e', he', rfl⟩ := List.mem_map.mp hd'
    obtain ⟨i, _, rfl⟩ := List.mem_map.mp he
    obtain ⟨i', _, rfl⟩ := List.mem_map.mp he'
    rfl
  · obtain ⟨e, he, rfl⟩ := List.mem_map.mp hd
    obtain ⟨i, _, rfl⟩ := List.mem_map.mp he
    exact ⟨(fun z => nomatch z), fun xs z => nomatch z⟩
  · obtain ⟨i, _, rfl⟩ := List.mem_map.mp hd
    exact Nat.zero_le _
theorem msort_i (ks : List Int) : (iD ks).mergeSort leD = iD (sortI ks) := by
  have p1 := List.mergeSort_perm (iD ks) leD
  have p2 : (iD (sortI ks)).Perm (iD ks) := (sortI_perm ks).map _
  refine List.Perm.eq_of_pairwise (le := fun a b => leD a b = true) (fun a b ha hb h1 h2 => ?_) (sorted_leD (iD ks)) ?_ (p1.trans p2.symm)
  · obtain ⟨i, _, rfl⟩ := List.mem_map.mp (p1.mem_iff.mp ha)
    obtain ⟨j, _, rfl⟩ := List.mem_map.mp hb
    rw [leD_int] at h1 h2
    have h1' : i ≤ j := by simpa using h1
    have h2' : j ≤ i := by simpa using h2
    rw [Int.le_antisymm h1' h2']
  · rw [List.pairwise_map]
    exact (sortI_sorted ks).imp fun h => by rw [leD_int]; simpa using h
theorem sorted_i (ks : List Int) : gSorted (iO ks) = some (iO (sortI ks)) := by
  unfold gSorted
  rw [rd_ol]
  simp only
  rw [if_pos (sortOk_i ks), msort_i]
/-- bridges: from, to, the word -/
abbrev Tri := Int × Int × Str
abbrev tD (B : List Tri) : List D := B.map fun t => .tup [.int t.1, .int t.2.1, .str t.2.2]
abbrev eB (B : List Tri) : List (Int × Int) := B.map fun t => (t.1, t.2.1)
theorem seq_iO (ks : List Int) : IsSeq (iO ks) (ks.map .int) := .inl (rd_ol _)
theorem seq_iT (ks : List Int) : IsSeq (.st (.tup (iD ks))) (ks.map .int) := .inr rfl
abbrev tupT (t : Tri) : D := .tup [.int t.1, .int t.2.1, .str t.2.2]
def rawT (q : List Nat) (ws : List (List Nat)) : List Tri := ws.flatMap fun w => (occ q w).map fun (p : Nat) => ((p : Int), (p : Int) + (w.length : Int), tx w)
theorem raw_tD (q : List Nat) (ws : List (List Nat)) : raw q ws = tD (rawT q ws) := by
  unfold raw rawT tD brs
  rw [List.map_flatMap]
  congr 1
  funext w
  rw [List.map_map]
  rfl
def leT (a b : Tri) : Bool := leD (tupT a) (tupT b)
/-- the bridges, sorted -/
def bT (q : List Nat) (ws : List (List Nat)) : List Tri := (rawT q ws).mergeSort leT
theorem sort_tD (q : List Nat) (ws : List (List Nat)) : (raw q ws).mergeSort leD = tD (bT q ws) := by
  rw [raw_tD]
  unfold bT tD
  exact (List.map_mergeSort (f := fun t : Tri => D.tup [.int t.1, .int t.2.1, .str t.2.2]) (r := leT) (s := leD) (fun a _ b _ => rfl)).symm
theorem bT_mem {q : List Nat} {ws : List (List Nat)} {t : Tri} : t ∈ bT q ws ↔ ∃ w ∈ ws, ∃ p ∈ occ q w, t = ((p : Int), (p : Int) + (w.length : Int), tx w) := by
  unfold bT
  rw [(List.mergeSort_perm _ _).mem_iff]
  unfold rawT
  rw [List.mem_flatMap]
  constructor
  · rintro ⟨w, hw, h⟩
    obtain ⟨p, hp, rfl⟩ := List.mem_map.mp h
    exact ⟨w, hw, p, hp, rfl⟩
  · rintro ⟨w, hw, p, hp, rfl⟩
    exact ⟨w, hw, List.mem_map.mpr ⟨p, hp, rfl⟩⟩
theorem occ_le {q w : List Nat} {p : Nat} (h : p ∈ occ q w) : p + w.length ≤ q.length := by
  unfold occ at h
  have := List.mem_range.mp (List.mem_filter.mp h).1
  omega
theorem rawT_len (q : List Nat) : ∀ ws : List (List Nat), (rawT q ws).length ≤ (q.length + 1) * ws.length
  | [] => by simp [rawT]
  | w :: r => by
    have ih := rawT_len q r
    have := occ_len q w
    unfold rawT at ih ⊢
    rw [List.flatMap_cons, List.length_append, List.length_map, List.length_cons, Nat.mul_succ]
    omega
theorem bT_len (q : List Nat) (ws : List (List Nat)) : (bT q ws).length ≤ (q.length + 1) * ws.length := by
  unfold bT
  rw [List.length_mergeSort]
  exact rawT_len q ws
/-- links of a question with so many places -/
structure LnkOk (n : Nat) (B : List Tri) : Prop where
  lt : ∀ t ∈ B, 0 ≤ t.1 ∧ t.1 < t.2.1 ∧ t.2.1 < (n : Int)
  len : B.length ≤ 250
  n0 : n ≤ 25
theorem bT_ok {q : List Nat} {ws : List (List Nat)} (hw : ∀ w ∈ ws, w ≠ []) (hq : q.length ≤ 24) (hl : ws.length ≤ 10) : LnkOk (q.length + 1) (bT q ws) := by
  refine ⟨fun t ht => ?_, ?_, by omega⟩
  · obtain ⟨w, hw', p, hp, rfl⟩ := bT_mem.mp ht
    have h1 := occ_le hp
    have h2 := List.length_pos_iff.mpr (hw w hw')
    refine ⟨by simp, by simp only; omega, by simp only; omega⟩
  · have h1 := bT_len q ws
    have : (q.length + 1) * ws.length ≤ 25 * 10 := Nat.mul_le_mul (by omega) hl
    omega
end Lw
set_option Elab.async false
set_option linter.all false
set_option maxRecDepth 100000
set_option maxHeartbeats 400000
namespace Lw
open PySem L2 Qy
structure QOk (q : List Nat) : Prop where
  low : Low q
  ne : q ≠ []
  len : q.length ≤ 24
structure WOk (ws : List (List Nat)) : Prop where
  low : ∀ w ∈ ws, Low w
  ne : ∀ w ∈ ws, w ≠ []
  len : ∀ w ∈ ws, w.length ≤ 12
  num : ws.length ≤ 10
abbrev lotD (ws : List (List Nat)) : D := .ins "Lot" [("own_words", .tup (wD ws))]
theorem lot_words (ws : List (List Nat)) : gFld "Lot" "own_words" (.st (lotD ws)) = some (.st (.tup (wD ws))) := by
  simp [gFld, List.lookup]
theorem bridges_of_ok {q : List Nat} {ws : List (List Nat)} (hq : QOk q) (hw : WOk ws) : m_bridges_of [.st (lotD ws), .st (.str (tx q))] = some (.ol ((tD (bT q ws)).map .st), [none, none]) := by
  have e1 := bridges_by_ok (q := q) (ws := ws) (o := .st (.tup (wD ws))) (.inr rfl) hq.low.sm (by have := hq.len; omega) (fun w h => ⟨(hw.low w h).sm, by have := hw.len w h; omega⟩) (by have := hw.num; omega)
  rw [sort_tD] at e1
  have e0 : rho0 N_bridges_of [.st (lotD ws), .st (.str (tx q))] = [some (.st (lotD ws)), some (.st (.str (tx q)))] := rfl
  simp only [runM, outsOf, fSeq, fRet, fAsg, gN, fFz, fPeek, fBack, fDrop, fBin, fUn, fC, fCons, fNil, fLend, fCall, fCallK, pick, List.filterMap_cons, List.filterMap_nil, putBack, fIfS, fB, fNot, fAnd, fOr, fAndV, fOrV, fNext, fIf, fX, fLst, fTup, fMov, fPar, gs2, gs3, gT, gsCons, gsNil, fYes, gAdd_i, gLt_i, gSub_i, gDiv_i, gMod_i, gGt_i, gLe_i, gGe_i, gInt_i, gNeg_i, gAbs_i, gMax_i, gMin_i, OD.val, valL, valL_st, fItS, fFor, fLc, wipeR, fPart, fNoPart, fSl, fAppend, fExtend, fPop, fGet2, fD1, fDNew, keyD, gSetQ, gSetI, gSetD, stK_map, fItR1, fLRg, List.getElem?_cons_succ, List.getElem?_cons_zero, List.set_cons_succ, List.set_cons_zero, List.length_cons, List.length_nil, List.map_cons, List.map_nil, Option.map_some, Option.map_none, Nat.zero_add, Nat.reduceAdd, Nat.reduceLT, Nat.reduceEqDiff, and_self, big0, big1, big2, big3, big4, big5, if_true, if_false, ite_true, ite_false, Bool.not_true, Bool.not_false, Bool.true_and, Bool.false_and,m_bridges_of, F_bridges_of, e0, lot_words, e1]
theorem links_ok {q : List Nat} {ws : List (List Nat)} (hq : QOk q) (hw : WOk ws) : m_law_links [.st (.lst (wD ws)), .st (.str (tx q))] = some (.ol ((tD (bT q ws)).map .st), [none, none]) := by
  rw [links_eq, bridges_by_ok (q := q) (ws := ws) (o := .st (.lst (wD ws))) (.inl rfl) hq.low.sm (by have := hq.len; omega) (fun w h => ⟨(hw.low w h).sm, by have := hw.len w h; omega⟩) (by have := hw.num; omega), sort_tD]
theorem len_q {q : List Nat} (hq : q.length ≤ 24) : gLen (.st (.str (tx q))) = some (.st (.int (q.length : Int))) := by
  have hb : q.length ≤ big := by unfold big; omega
  simp [gLen, OD.rd, tx_len, hb]
theorem is_int_ok (i : Int) : m_is_integer [.st (.int i)] = some (.st (.bl true), [none]) := by
  have h1 : gIsi (.st (.int i)) (.st (.raw (.ty "int"))) = some (.st (.bl true)) := by
    have : kitB "int" "int" = some true := by decide +kernel
    simp [gIsi, OD.rd, tyN, this]
  have h2 : gIsi (.st (.int i)) (.st (.raw (.ty "bool"))) = some (.st (.bl false)) := by
    have : kitB "int" "bool" = some false := by decide +kernel
    simp [gIsi, OD.rd, tyN, this]
  simp [runM, rho0, outsOf, fSeq, fRet, fAsg, gN, fFz, fPeek, fBack, fDrop, fBin, fUn, fC, fCons, fNil, fLend, fCall, putBack, fIfS, fB, fNot, fAnd, fOr, fAndV, fOrV, fNext, fIf, fX, fLst, fTup, fMov, fPar, gs2, gs3, gT, gsCons, gsNil, gAdd_i, gLt_i, gSub_i, gMul_i, gDiv_i, gMod_i, gGt_i, gLe_i, gGe_i, gInt_i, gNeg_i, gAbs_i, gMax_i, gMin_i, gPow_i, gSetI, gDivmod, gIx, OD.rd, OD.val, stAll, gLen, fItS, fItR1, fFor, fLc, wipeR, fPart, fNoPart, fSl, -List.map_map,m_is_integer, F_is_integer, h1, h2, gNotV]
theorem eqI (a b : Int) : gEq (.st (.int a)) (.st (.int b)) = some (.st (.bl (decide (a = b)))) := by
  show some (OD.st (.bl (PyData.eqv (.int a) (.int b)))) = _
  have : PyData.eqv (.int a) (.int b) = decide (a = b) := by
    show (a == b) = _
    by_cases h : a = b
    · subst h; simp
    · simp [h]
  rw [this]
abbrev bD (bs : List Bool) : List D := bs.map .bl
theorem py_bools : ∀ bs : List Bool, pyL (bD bs) = some (bs.map .bool)
  | [] => rfl
  | c :: r => by
    show (match (D.bl c).py, pyL (bD r) with | some p, some ps => some (p :: ps) | _, _ => none) = _
    rw [py_bools r]
    rfl
theorem py_bO (bs : List Bool) : OD.py (.ol ((bD bs).map .st)) = some (.list (bs.map .bool)) := by
  show (OD.val (.ol ((bD bs).map .st))).py = _
  rw [val_ol]
  show (pyL (bD bs)).map PyData.list = _
  rw [py_bools]
  rfl
theorem rep_bools {n : Nat} {bs : List Bool} (h : bs.length ≤ n) : Rep n 1 (.list (bs.map .bool)) := by
  have := rep_list (w := 0) (k := 0) (n := n) (xs := bs.map .bool) (fun x hx => by
    obtain ⟨b, _, rfl⟩ := List.mem_map.mp hx
    exact rep_bool b) (by simpa using h)
  rw [Nat.zero_add, Nat.one_mul] at this
  exact this
theorem rng_mem {n : Nat} {d : D} (h : d ∈ rngD 0 n) : ∃ j : Nat, j < n ∧ d = .int (j : Int) := by
  obtain ⟨j, hj, rfl⟩ := List.mem_map.mp h
  exact ⟨j, List.mem_range.mp hj, by rw [Int.zero_add]⟩
theorem rng_eq (n : Nat) : rngD 0 n = (List.range n).map fun (j : Nat) => D.int (j : Int) := by
  unfold rngD
  refine List.map_congr_left fun j _ => ?_
  rw [Int.zero_add]
abbrev tupS (w : List Nat) : D := .tup [.int (w.length : Int), .str (tx w)]
/-- words, shorter ones first -/
def sw (ws : List (List Nat)) : List (List Nat) := ws.mergeSort fun a b => leD (tupS a) (tupS b)
theorem sw_perm (ws : List (List Nat)) : (sw ws).Perm ws := List.mergeSort_perm _ _
theorem sortOk_S (ws : List (List Nat)) : sortOk (ws.map tupS) := by
  have hp : ∀ d ∈ ws.map tupS, ∃ (a : Int) (x : Str), pyD d = .tuple [.int a, .str x] ∧ d.py.isSome = true := fun d hd => by
    obtain ⟨w, _, rfl⟩ := List.mem_map.mp hd
    exact ⟨_, _, rfl, rfl⟩
  refine ⟨fun d hd => ?_, fun d hd d' hd' => ?_, .inl fun d hd => ?_, fun d hd => ?_⟩
  · obtain ⟨_, _, _, h⟩ := hp d hd; exact h
  · obtain ⟨e, he, rfl⟩ := List.mem_map.mp hd
    obtain ⟨e', he', rfl⟩ := List.mem_map.mp hd'
    obtain ⟨_, _, h, _⟩ := hp e he
    obtain ⟨_, _, h', _⟩ := hp e' he'
    rw [h, h']
    rfl
  · obtain ⟨e, he, rfl⟩ := List.mem_map.mp hd
    obtain ⟨_, _, h, _⟩ := hp e he
    exact ⟨_, _, h⟩
  · obtain ⟨_, _, h, _⟩ := hp d hd
    rw [h]
    show (1 : Nat) ≤ 64
    decide
theorem len_w {w : List Nat} (h : w.length ≤ 100) : gLen (.st (.str (tx w))) = some (.st (.int (w.length : Int))) := by
  have hb : w.length ≤ big := by unfold big; omega
  simp [gLen, OD.rd, tx_len, hb]
theorem sorted_words_ok {ws : List (List Nat)} {o : OD} (ho : o = .st (.lst (wD ws)) ∨ o = .st (.tup (wD ws))) (hw : ∀ w ∈ ws, w.length ≤ 100) (hl : ws.length ≤ 100) : m_sorted_words [o] = some (wO (sw ws), [none]) := by
  have e1 := compL_pure (own := [2]) (tg := gN 2) (tt := fYes) (te := (fTup (fCons (fUn gLen (fP 2)) (fCons (fFz (fP 2)) fNil)))) (ρ0 := [some o, none, none])
    (p := fun _ => true) (g := fun d => match d with | .str x => .st (.tup [.int (x.length : Int), .str x]) | _ => .st .non) (ds := wD ws) (acc := []) (by
      intro d hd
      obtain ⟨w, hw', rfl⟩ := List.mem_map.mp hd
      have el := len_w (hw w hw')
      refine ⟨[some o, none, some (.st (.str (tx w)))], [some o, none, some (.st (.str (tx w)))], by simp [gN], rfl, (fun z => nomatch z), fun _ => ⟨[some o, none, some (.st (.str (tx w)))], ?_, by simp [wipeR]⟩⟩
      simp only [runM, outsOf, fSeq, fRet, fAsg, gN, fFz, fPeek, fBack, fDrop, fBin, fUn, fC, fCons, fNil, fLend, fCall, fCallK, pick, List.filterMap_cons, List.filterMap_nil, putBack, fIfS, fB, fNot, fAnd, fOr, fAndV, fOrV, fNext, fIf, fX, fLst, fTup, fMov, fPar, gs2, gs3, gT, gsCons, gsNil, fYes, gAdd_i, gLt_i, gSub_i, gDiv_i, gMod_i, gGt_i, gLe_i, gGe_i, gInt_i, gNeg_i, gAbs_i, gMax_i, gMin_i, OD.val, valL, valL_st, fItS, fFor, fLc, wipeR, fPart, fNoPart, fSl, fAppend, fExtend, fPop, fGet2, fD1, fDNew, keyD, gSetQ, gSetI, gSetD, stK_map, fItR1, fLRg, List.getElem?_cons_succ, List.getElem?_cons_zero, List.set_cons_succ, List.set_cons_zero, List.length_cons, List.length_nil, List.map_cons, List.map_nil, Option.map_some, Option.map_none, Nat.zero_add, Nat.reduceAdd, Nat.reduceLT, Nat.reduceEqDiff, and_self, big0, big1, big2, big3, big4, big5, if_true, if_false, ite_true, ite_false, Bool.not_true, Bool.not_false, Bool.true_and, Bool.false_and,el, tx_len]) (by simp [big]; omega)
  have e1' : ((wD ws).filter fun _ => true).map (fun d => match d with | .str x => OD.st (.tup [.int (x.length : Int), .str x]) | _ => .st .non) = (ws.map tupS).map .st := by
    rw [List.filter_eq_self.mpr (fun _ _ => rfl), List.map_map, List.map_map]
    refine List.map_congr_left fun w _ => ?_
    simp only [Function.comp, tx_len]
  rw [List.nil_append, e1'] at e1
  have e2 : gSorted (.ol ((ws.map tupS).map .st)) = some (.ol (((sw ws).map tupS).map .st)) := by
    unfold gSorted
    rw [rd_ol]
    simp only
    rw [if_pos (sortOk_S ws)]
    unfold sw
    rw [List.map_mergeSort (f := tupS) (r := fun a b => leD (tupS a) (tupS b)) (s := leD) (fun a _ b _ => rfl)]
  have hl2 : (sw ws).length ≤ 100 := by rw [(sw_perm ws).length_eq]; exact hl
  have e3 := compL_pure (own := [1, 2]) (tg := (gT 2 (gsCons (gN 1) (gsCons (gN 2) gsNil)))) (tt := fYes) (te := (fFz (fP 2))) (ρ0 := [some o, none, none])
    (p := fun _ => true) (g := fun d => match d with | .tup [_, x] => .st x | _ => .st .non) (ds := (sw ws).map tupS) (acc := []) (by
      intro d hd
      obtain ⟨w, hw', rfl⟩ := List.mem_map.mp hd
      refine ⟨[some o, some (.st (.int (w.length : Int))), some (.st (.str (tx w)))], [some o, some (.st (.int (w.length : Int))), some (.st (.str (tx w)))], by simp [gT, gsCons, gN, gsNil], rfl, (fun z => nomatch z), fun _ => ⟨[some o, some (.st (.int (w.length : Int))), some (.st (.str (tx w)))], ?_, by simp [wipeR]⟩⟩
      simp only [runM, outsOf, fSeq, fRet, fAsg, gN, fFz, fPeek, fBack, fDrop, fBin, fUn, fC, fCons, fNil, fLend, fCall, fCallK, pick, List.filterMap_cons, List.filterMap_nil, putBack, fIfS, fB, fNot, fAnd, fOr, fAndV, fOrV, fNext, fIf, fX, fLst, fTup, fMov, fPar, gs2, gs3, gT, gsCons, gsNil, fYes, gAdd_i, gLt_i, gSub_i, gDiv_i, gMod_i, gGt_i, gLe_i, gGe_i, gInt_i, gNeg_i, gAbs_i, gMax_i, gMin_i, OD.val, valL, valL_st, fItS, fFor, fLc, wipeR, fPart, fNoPart, fSl, fAppend, fExtend, fPop, fGet2, fD1, fDNew, keyD, gSetQ, gSetI, gSetD, stK_map, fItR1, fLRg, List.getElem?_cons_succ, List.getElem?_cons_zero, List.set_cons_succ, List.set_cons_zero, List.length_cons, List.length_nil, List.map_cons, List.map_nil, Option.map_some, Option.map_none, Nat.zero_add, Nat.reduceAdd, Nat.reduceLT, Nat.reduceEqDiff, and_self, big0, big1, big2, big3, big4, big5, if_true, if_false, ite_true, ite_false, Bool.not_true, Bool.not_false, Bool.true_and, Bool.false_and]) (by simp [big]; omega)
  have e3' : (((sw ws).map tupS).filter fun _ => true).map (fun d => match d with | .tup [_, x] => OD.st x | _ => .st .non) = (wD (sw ws)).map .st := by
    rw [List.filter_eq_self.mpr (fun _ _ => rfl), List.map_map, List.map_map]
    rfl
  rw [List.nil_append, e3'] at e3
  have e0 : rho0 N_sorted_words [o] = [some o, none, none] := rfl
  rcases ho with rfl | rfl
  · simp only [runM, outsOf, fSeq, fRet, fAsg, gN, fFz, fPeek, fBack, fDrop, fBin, fUn, fC, fCons, fNil, fLend, fCall, fCallK, pick, List.filterMap_cons, List.filterMap_nil, putBack, fIfS, fB, fNot, fAnd, fOr, fAndV, fOrV, fNext, fIf, fX, fLst, fTup, fMov, fPar, gs2, gs3, gT, gsCons, gsNil, fYes, gAdd_i, gLt_i, gSub_i, gDiv_i, gMod_i, gGt_i, gLe_i, gGe_i, gInt_i, gNeg_i, gAbs_i, gMax_i, gMin_i, OD.val, valL, valL_st, fItS, fFor, fLc, wipeR, fPart, fNoPart, fSl, fAppend, fExtend, fPop, fGet2, fD1, fDNew, keyD, gSetQ, gSetI, gSetD, stK_map, fItR1, fLRg, List.getElem?_cons_succ, List.getElem?_cons_zero, List.set_cons_succ, List.set_cons_zero, List.length_cons, List.length_nil, List.map_cons, List.map_nil, Option.map_some, Option.map_none, Nat.zero_add, Nat.reduceAdd, Nat.reduceLT, Nat.reduceEqDiff, and_self, big0, big1, big2, big3, big4, big5, if_true, if_false, ite_true, ite_false, Bool.not_true, Bool.not_false, Bool.true_and, Bool.false_and,m_sorted_words, F_sorted_words, e0, e1, e2, e3]
  · simp only [runM, outsOf, fSeq, fRet, fAsg, gN, fFz, fPeek, fBack, fDrop, fBin, fUn, fC, fCons, fNil, fLend, fCall, fCallK, pick, List.filterMap_cons, List.filterMap_nil, putBack, fIfS, fB, fNot, fAnd, fOr, fAndV, fOrV, fNext, fIf, fX, fLst, fTup, fMov, fPar, gs2, gs3, gT, gsCons, gsNil, fYes, gAdd_i, gLt_i, gSub_i, gDiv_i, gMod_i, gGt_i, gLe_i, gGe_i, gInt_i, gNeg_i, gAbs_i, gMax_i, gMin_i, OD.val, valL, valL_st, fItS, fFor, fLc, wipeR, fPart, fNoPart, fSl, fAppend, fExtend, fPop, fGet2, fD1, fDNew, keyD, gSetQ, gSetI, gSetD, stK_map, fItR1, fLRg, List.getElem?_cons_succ, List.getElem?_cons_zero, List.set_cons_succ, List.set_cons_zero, List.length_cons, List.length_nil, List.map_cons, List.map_nil, Option.map_some, Option.map_none, Nat.zero_add, Nat.reduceAdd, Nat.reduceLT, Nat.reduceEqDiff, and_self, big0, big1, big2, big3, big4, big5, if_true, if_false, ite_true, ite_false, Bool.not_true, Bool.not_false, Bool.true_and, Bool.false_and,m_sorted_words, F_sorted_words, e0, e1, e2, e3]
theorem is_list_ok {ds : List D} : m_is_list [.st (.lst ds)] = some (.st (.bl true), [none]) := by
  have h1 : kitB "list" "list" = some true := by decide +kernel
  have h2 : kitB "list" "tuple" = some false := by decide +kernel
  have e0 : rho0 N_is_list [.st (.lst ds)] = [some (.st (.lst ds))] := rfl
  have e1 : gIsi2K (.st (.lst ds)) (.st (.tup [.raw (.ty "list"), .raw (.ty "tuple")])) = some (.st (.bl true)) := by
    simp [gIsi2K, OD.rd, tyNK, tyN, h1, h2]
  simp only [runM, outsOf, fSeq, fRet, fAsg, gN, fFz, fPeek, fBack, fDrop, fBin, fUn, fC, fCons, fNil, fLend, fCall, fCallK, pick, List.filterMap_cons, List.filterMap_nil, putBack, fIfS, fB, fNot, fAnd, fOr, fAndV, fOrV, fNext, fIf, fX, fLst, fTup, fMov, fPar, gs2, gs3, gT, gsCons, gsNil, fYes, gAdd_i, gLt_i, gSub_i, gDiv_i, gMod_i, gGt_i, gLe_i, gGe_i, gInt_i, gNeg_i, gAbs_i, gMax_i, gMin_i, OD.val, valL, valL_st, fItS, fFor, fLc, wipeR, fPart, fNoPart, fSl, fAppend, fExtend, fPop, fGet2, fD1, fDNew, keyD, gSetQ, gSetI, gSetD, stK_map, fItR1, fLRg, List.getElem?_cons_succ, List.getElem?_cons_zero, List.set_cons_succ, List.set_cons_zero, List.length_cons, List.length_nil, List.map_cons, List.map_nil, Option.map_some, Option.map_none, Nat.zero_add, Nat.reduceAdd, Nat.reduceLT, Nat.reduceEqDiff, and_self, big0, big1, big2, big3, big4, big5, if_true, if_false, ite_true, ite_false, Bool.not_true, Bool.not_false, Bool.true_and, Bool.false_and,m_is_list, F_is_list, e0, e1]
noncomputable abbrev LiB : Fs := (fIfS (fOr (fNot (fB (fCall m_is_kept_word (fCons (fFz (fP 3)) fNil) [none]))) (fB (fBin gInQ (fP 3) (fE (fSl (fP 1) fNoPart (fPart (fFz (fP 2)))))))) fStuck fNext)
theorem cutD_to {ds : List D} {k : Nat} (h : k ≤ ds.length) : cutD ds none (some (k : Int)) = ds.take k := by
  unfold cutD
  rw [HT.sIx_nat, Nat.min_eq_left h]
  rfl
theorem Lot_ok {ws : List (List Nat)} (hw : WOk ws) (nd : ws.Nodup) : m_Lot_init [.oi "Lot" [], .st (.lst (wD ws))] = some (.st .non, [some (.oi "Lot" [("own_words", .st (.tup (wD (sw ws))))]), none]) := by
  have hnum := hw.num
  have lp := loopF_inv (tg := gT 2 (gsCons (gN 2) (gsCons (gN 3) gsNil))) (body := LiB) (I := fun i ρ => ∃ s2 s3, ρ = [some (.oi "Lot" []), some (.st (.lst (wD ws))), s2, s3])
    (ds := enumD (wD ws)) (i := 0) (ρ := [some (.oi "Lot" []), some (.st (.lst (wD ws))), none, none]) ⟨_, _, rfl⟩ (by
      rintro i d ρ hd ⟨s2, s3, rfl⟩
      have hd' : ∃ w, ws[i]? = some w ∧ d = .tup [.int (i : Int), .str (tx w)] := by
        simp only [enumD, List.getElem?_map, List.getElem?_zipIdx] at hd
        cases q0 : ws[i]? with
        | none => rw [q0] at hd; simp at hd
        | some w => rw [q0] at hd; exact ⟨w, rfl, by simpa using hd.symm⟩
      obtain ⟨w, hwi, rfl⟩ := hd'
      have hm := List.mem_of_getElem? hwi
      have hi := (List.getElem?_eq_some_iff.mp hwi).1
      have e1 := is_kept_ok (hw.low w hm) (hw.ne w hm) (hw.len w hm)
      have e2 : gSl (.st (.lst (wD ws))) none (some (i : Int)) = some (.ol ((wD (ws.take i)).map .st)) := by
        show some (OD.ol ((cutD (wD ws) none (some (i : Int))).map .st)) = _
        rw [cutD_to (by simp; omega), ← List.map_take]
      have hni : w ∉ ws.take i := by
        intro z
        obtain ⟨j, hj, hjw⟩ := List.getElem_of_mem z
        have hj' : j < i := by simp at hj; omega
        rw [List.getElem_take] at hjw
        have hwi' := (List.getElem?_eq_some_iff.mp hwi).2
        exact List.pairwise_iff_getElem.mp nd j i (by omega) hi hj' (by rw [hjw, hwi'])
      have e3 : gInQ (.st (.str (tx w))) (.ol ((wD (ws.take i)).map .st)) = some (.st (.bl false)) := by
        rw [in_w (seq_wO (ws.take i))]
        simp [hni]
      refine ⟨[some (.oi "Lot" []), some (.st (.lst (wD ws))), some (.st (.int (i : Int))), some (.st (.str (tx w)))], [some (.oi "Lot" []), some (.st (.lst (wD ws))), some (.st (.int (i : Int))), some (.st (.str (tx w)))], by simp [gT, gsCons, gN, gsNil], ?_, _, _, rfl⟩
      · simp only [runM, outsOf, fSeq, fRet, fAsg, gN, fFz, fPeek, fBack, fDrop, fBin, fUn, fC, fCons, fNil, fLend, fCall, fCallK, pick, List.filterMap_cons, List.filterMap_nil, putBack, fIfS, fB, fNot, fAnd, fOr, fAndV, fOrV, fNext, fIf, fX, fLst, fTup, fMov, fPar, gs2, gs3, gT, gsCons, gsNil, fYes, gAdd_i, gLt_i, gSub_i, gDiv_i, gMod_i, gGt_i, gLe_i, gGe_i, gInt_i, gNeg_i, gAbs_i, gMax_i, gMin_i, OD.val, valL, valL_st, fItS, fFor, fLc, wipeR, fPart, fNoPart, fSl, fAppend, fExtend, fPop, fGet2, fD1, fDNew, keyD, gSetQ, gSetI, gSetD, stK_map, fItR1, fLRg, List.getElem?_cons_succ, List.getElem?_cons_zero, List.set_cons_succ, List.set_cons_zero, List.length_cons, List.length_nil, List.map_cons, List.map_nil, Option.map_some, Option.map_none, Nat.zero_add, Nat.reduceAdd, Nat.reduceLT, Nat.reduceEqDiff, and_self, big0, big1, big2, big3, big4, big5, if_true, if_false, ite_true, ite_false, Bool.not_true, Bool.not_false, Bool.true_and, Bool.false_and,LiB, e1, e2, e3])
  obtain ⟨ρ', e1, s2, s3, rfl⟩ := lp
  have e2 := sorted_words_ok (ws := ws) (o := .st (.lst (wD ws))) (.inl rfl) (fun w h => by have := hw.len w h; omega) (by omega)
  have e3 := is_list_ok (ds := wD ws)
  have e4 : gLen (.st (.lst (wD ws))) = some (.st (.int (ws.length : Int))) := by
    show some (OD.st (.int ((wD ws).length : Int))) = _
    simp
  have h10 : decide ((10 : Int) < (ws.length : Int)) = false := by simp; omega
  have e5 : gTuple (wO (sw ws)) = some (.st (.tup (wD (sw ws)))) := by
    unfold gTuple
    rw [rd_ol]
  have e0 : rho0 N_Lot_init [.oi "Lot" [], .st (.lst (wD ws))] = [some (.oi "Lot" []), some (.st (.lst (wD ws))), none, none] := rfl
  simp only [LiB] at e1
  simp only [runM, outsOf, fSeq, fRet, fAsg, gN, fFz, fPeek, fBack, fDrop, fBin, fUn, fC, fCons, fNil, fLend, fCall, fCallK, pick, List.filterMap_cons, List.filterMap_nil, putBack, fIfS, fB, fNot, fAnd, fOr, fAndV, fOrV, fNext, fIf, fX, fLst, fTup, fMov, fPar, gs2, gs3, gT, gsCons, gsNil, fYes, gAdd_i, gLt_i, gSub_i, gDiv_i, gMod_i, gGt_i, gLe_i, gGe_i, gInt_i, gNeg_i, gAbs_i, gMax_i, gMin_i, OD.val, valL, valL_st, fItS, fFor, fLc, wipeR, fPart, fNoPart, fSl, fAppend, fExtend, fPop, fGet2, fD1, fDNew, keyD, gSetQ, gSetI, gSetD, stK_map, fItR1, fLRg, List.getElem?_cons_succ, List.getElem?_cons_zero, List.set_cons_succ, List.set_cons_zero, List.length_cons, List.length_nil, List.map_cons, List.map_nil, Option.map_some, Option.map_none, Nat.zero_add, Nat.reduceAdd, Nat.reduceLT, Nat.reduceEqDiff, and_self, big0, big1, big2, big3, big4, big5, if_true, if_false, ite_true, ite_false, Bool.not_true, Bool.not_false, Bool.true_and, Bool.false_and,m_Lot_init, F_Lot_init, e0, e3, fItEQ, e1, e4, h10, fSetF, e2, e5, List.all_nil, List.nil_append]
theorem bT_perm (q : List Nat) {ws ws' : List (List Nat)} (p : ws.Perm ws') : bT q ws = bT q ws' := by
  have pr : (rawT q ws).Perm (rawT q ws') := p.flatMap_right _
  have p1 := List.mergeSort_perm (rawT q ws) leT
  have p2 := List.mergeSort_perm (rawT q ws') leT
  have hs : ∀ l : List Tri, (l.mergeSort leT).Pairwise fun a b => leT a b = true := fun l =>
    List.pairwise_mergeSort (le := leT) (fun a b c => leD_total.trans (tupT a) (tupT b) (tupT c)) (fun a b => by have := leD_total.total (tupT a) (tupT b); simpa [leT] using this) l
  unfold bT
  refine List.Perm.eq_of_pairwise (le := fun a b => leT a b = true) (fun a b _ _ h1 h2 => ?_) (hs _) (hs _) (p1.trans (pr.trans p2.symm))
  have := leD_anti h1 h2
  have e : ∀ t : Tri, tk (tupT t) = [.inl 1, .inl t.1, .inl 1, .inl t.2.1, .inl 1, .inr t.2.2.cps.toList, .inl 0] := fun t => rfl
  rw [e, e] at this
  simp only [List.cons.injEq, Sum.inl.injEq, Sum.inr.injEq, and_true, true_and] at this
  obtain ⟨h1, h2, h3⟩ := this
  exact Prod.ext h1 (Prod.ext h2 (W.str_of_cps h3))
theorem WOk.perm {ws ws' : List (List Nat)} (h : WOk ws) (p : ws'.Perm ws) : WOk ws' :=
  ⟨fun w hw => h.low w (p.mem_iff.mp hw), fun w hw => h.ne w (p.mem_iff.mp hw), fun w hw => h.len w (p.mem_iff.mp hw), by rw [p.length_eq]; exact h.num⟩
theorem make_ok {ws : List (List Nat)} (hw : WOk ws) (nd : ws.Nodup) {f : Fa} {ρ ρ1 : Rho} (hf : f ρ = some ([.st (.lst (wD ws))], ρ1)) : fMake "Lot" m_Lot_init f [none] ρ = some (.st (lotD (sw ws)), ρ1) := by
  have e := Lot_ok hw nd
  simp only [fMake, hf, e]
  rfl
theorem cut_in {q : List Nat} {a s : Nat} (h : a ≤ q.length) : cutS (tx q) (some (a : Int)) (some ((a : Int) + (s : Int))) = tx ((q.drop a).take s) := by
  show (⟨((q.drop (HT.sIx q.length 0 (some (a : Int)))).take (HT.sIx q.length q.length (some ((a : Int) + (s : Int))) - HT.sIx q.length 0 (some (a : Int)))).toArray⟩ : Str) = _
  rw [show ((a : Int) + (s : Int)) = ((a + s : Nat) : Int) by omega, HT.sIx_nat, HT.sIx_nat, Nat.min_eq_left h]
  congr 2
  by_cases hs : a + s ≤ q.length
  · rw [Nat.min_eq_left hs, show a + s - a = s by omega]
  · rw [Nat.min_eq_right (by omega), List.take_of_length_le (by simp), List.take_of_length_le (by simp; omega)]
theorem all_bools (bs : List Bool) : gAll (.ol ((bD bs).map .st)) = some (.st (.bl (bs.all id))) := by
  have : ∀ bs : List Bool, blsOf (bD bs) = some bs := fun bs => by
    induction bs with
    | nil => rfl
    | cons b r ih =>
      show blsOf (.bl b :: bD r) = _
      simp only [blsOf, ih]
      rfl
  unfold gAll
  rw [rd_ol]
  simp only [this]
  rfl
theorem neI (a b : Int) : gNe (.st (.int a)) (.st (.int b)) = some (.st (.bl (!decide (a = b)))) := by
  show some (OD.st (.bl (!PyData.eqv (.int a) (.int b)))) = _
  have : PyData.eqv (.int a) (.int b) = decide (a = b) := by
    show (a == b) = _
    by_cases h : a = b
    · subst h; simp
    · simp [h]
  rw [this]
theorem cutD_take (ds : List D) (k : Nat) : cutD ds none (some (k : Int)) = ds.take k := by
  unfold cutD
  rw [HT.sIx_nat]
  show (ds.drop 0).take (min k ds.length - 0) = _
  rw [List.drop_zero, Nat.sub_zero]
  by_cases h : k ≤ ds.length
  · rw [Nat.min_eq_left h]
  · rw [Nat.min_eq_right (by omega), List.take_of_length_le (Nat.le_refl _), List.take_of_length_le (by omega)]
theorem eq_py {o o' : OD} {P : PyData} (h : o.py = some P) (h' : o'.py = some P) (hs : SeqAt.shaped P = true) : gEq o o' = some (.st (.bl true)) := by
  have hl : P.canLay0 = true := by
    unfold SeqAt.shaped at hs
    exact (Bool.and_eq_true_iff.mp hs).1
  unfold gEq
  rw [h, h']
  simp only
  rw [if_pos ⟨hs, hs⟩, SeqAt.eqv_refl P hl]
theorem ne_py {o o' : OD} {P : PyData} (h : o.py = some P) (h' : o'.py = some P) (hs : SeqAt.shaped P = true) : gNe o o' = some (.st (.bl false)) := by
  have hl : P.canLay0 = true := by
    unfold SeqAt.shaped at hs
    exact (Bool.and_eq_true_iff.mp hs).1
  unfold gNe
  rw [h, h']
  simp only
  rw [if_pos ⟨hs, hs⟩, SeqAt.eqv_refl P hl]
  rfl
/-- bridges as data -/
abbrev pT (t : Tri) : PyData := .tuple [.int t.1, .int t.2.1, .str t.2.2]
theorem py_tD : ∀ B : List Tri, pyL (tD B) = some (B.map pT)
  | [] => rfl
  | t :: r => by
    show (match (D.tup [.int t.1, .int t.2.1, .str t.2.2]).py, pyL (tD r) with | some p, some ps => some (p :: ps) | _, _ => none) = _
    rw [py_tD r]
    rfl
theorem py_tO (B : List Tri) : OD.py (.ol ((tD B).map .st)) = some (.list (B.map pT)) := by
  show (OD.val (.ol ((tD B).map .st))).py = _
  rw [val_ol]
  show (pyL (tD B)).map PyData.list = _
  rw [py_tD]
  rfl
theorem lay_t : ∀ {B : List Tri}, (∀ t ∈ B, PyData.strOk t.2.2 = true) → PyData.canLayAll0 (B.map pT) = true
  | [], _ => rfl
  | t :: r, h => by
    show (PyData.canLay0 (pT t) && PyData.canLayAll0 (r.map pT)) = true
    rw [lay_t fun x hx => h x (List.mem_cons_of_mem _ hx), Bool.and_true]
    show (true && (true && (PyData.strOk t.2.2 && true))) = true
    rw [h t List.mem_cons_self]
    rfl
theorem depth_t : ∀ B : List Tri, PyData.depthAll (B.map pT) ≤ 1
  | [] => Nat.zero_le _
  | t :: r => by
    show max (PyData.depth (pT t)) (PyData.depthAll (r.map pT)) ≤ 1
    have h1 := depth_t r
    have h2 : PyData.depth (pT t) = 1 := rfl
    omega
theorem shaped_t {B : List Tri} (h : ∀ t ∈ B, PyData.strOk t.2.2 = true) : SeqAt.shaped (.list (B.map pT)) = true := by
  unfold SeqAt.shaped
  rw [show PyData.canLay0 (.list (B.map pT)) = true from lay_t h]
  show (true && decide (PyData.depthAll (B.map pT) + 1 ≤ 64)) = true
  have := depth_t B
  simp
  omega
theorem shaped_t1 {t : Tri} (h : PyData.strOk t.2.2 = true) : SeqAt.shaped (pT t) = true := by
  unfold SeqAt.shaped
  rw [show PyData.canLay0 (pT t) = (true && (true && (PyData.strOk t.2.2 && true))) from rfl, h]
  rfl
theorem eqv_t (t u : Tri) : PyData.eqv (pT t) (pT u) = decide (t = u) := by
  show (t.1 == u.1 && (t.2.1 == u.2.1 && (t.2.2 == u.2.2 && true))) = _
  by_cases h : t = u
  · subst h
    simp
  · rw [decide_eq_false h]
    apply Bool.eq_false_iff.mpr
    intro z
    simp only [Bool.and_eq_true, beq_iff_eq, and_true] at z
    exact h (Prod.ext z.1 (Prod.ext z.2.1 z.2.2))
/-- a bridge among bridges -/
theorem notIn_t {t : Tri} {B : List Tri} {o : OD} (ho : o.py = some (.list (B.map pT))) (hB : ∀ t ∈ B, PyData.strOk t.2.2 = true) (ht : PyData.strOk t.2.2 = true) : gNotInQ (.st (.tup [.int t.1, .int t.2.1, .str t.2.2])) o = some (.st (.bl (!decide (t ∈ B)))) := by
  have e1 : gInF true (.st (.tup [.int t.1, .int t.2.1, .str t.2.2])) o = none := by
    unfold gInF
    simp [OD.rd, scOf]
  unfold gNotInQ gOr2
  rw [e1]
  simp only
  unfold gNotIn
  rw [ho, show OD.py (.st (.tup [.int t.1, .int t.2.1, .str t.2.2])) = some (pT t) from rfl]
  simp only
  rw [if_pos ⟨shaped_t1 ht, shaped_t hB⟩]
  congr 4
  rw [List.any_map]
  have : ((fun z => PyData.eqv z (pT t)) ∘ pT) = fun u => decide (u = t) := by
    funext u
    exact eqv_t u t
  rw [this]
  by_cases h : t ∈ B
  · rw [decide_eq_true h]
    exact List.any_eq_true.mpr ⟨t, h, by simp⟩
  · rw [decide_eq_false h]
    apply Bool.eq_false_iff.mpr
    intro z
    obtain ⟨u, hu, e⟩ := List.any_eq_true.mp z
    have : u = t := by simpa using e
    exact h (this ▸ hu)
end Lw
set_option Elab.async false
set_option linter.all false
set_option maxRecDepth 100000
set_option maxHeartbeats 400000
namespace Lw
open PySem L2 Qy
abbrev stp (s : Stp) : D := .tup [.int s.1, .str s.2.1, .int s.2.2]
abbrev sD (A : List Stp) : List D := A.map stp
def leS (a b : Stp) : Bool := leD (stp a) (stp b)
abbrev srt (A : List Stp) : List Stp := A.mergeSort leS
def rawS (B : List Tri) : List Stp := B.flatMap fun t => [(t.1, t.2.2, t.2.1), (t.2.1, t.2.2, t.1)]
def sT (B : List Tri) : List Stp := srt (rawS B)
theorem sort_sD (A : List Stp) : (sD A).mergeSort leD = sD (srt A) :=
  (List.map_mergeSort (f := stp) (r := leS) (s := leD) (fun a _ b _ => rfl)).symm
theorem sortOk_sD (A : List Stp) : sortOk (sD A) := by
  have hp : ∀ d ∈ sD A, ∃ (a b : Int) (x : Str), pyD d = .tuple [.int a, .str x, .int b] ∧ d.py.isSome = true := fun d hd => by
    obtain ⟨s, _, rfl⟩ := List.mem_map.mp hd
    exact ⟨_, _, _, rfl, rfl⟩
  refine ⟨fun d hd => ?_, fun d hd d' hd' => ?_, .inl fun d hd => ?_, fun d hd => ?_⟩
  · obtain ⟨_, _, _, _, h⟩ := hp d hd; exact h
  · obtain ⟨e, he, rfl⟩ := List.mem_map.mp hd
    obtain ⟨e', he', rfl⟩ := List.mem_map.mp hd'
    obtain ⟨_, _, _, h, _⟩ := hp e he
    obtain ⟨_, _, _, h', _⟩ := hp e' he'
    rw [h, h']
    rfl
  · obtain ⟨e, he, rfl⟩ := List.mem_map.mp hd
    obtain ⟨_, _, _, h, _⟩ := hp e he
    exact ⟨_, _, h⟩
  · obtain ⟨_, _, _, h, _⟩ := hp d hd
    rw [h]
    show (1 : Nat) ≤ 64
    decide
theorem sorted_sD {A : List Stp} {o : OD} (h : o.rd = some (.lst (sD A))) : gSorted o = some (.ol ((sD (srt A)).map .st)) := by
  unfold gSorted
  rw [h]
  simp only
  rw [if_pos (sortOk_sD A), sort_sD]
theorem leS_sorted (A : List Stp) : (srt A).Pairwise fun a b => leS a b = true :=
  List.pairwise_mergeSort (le := leS) (fun a b c => leD_total.trans (stp a) (stp b) (stp c)) (fun a b => by have := leD_total.total (stp a) (stp b); simpa [leS] using this) A
theorem leS_anti {a b : Stp} (h1 : leS a b = true) (h2 : leS b a = true) : a = b := by
  have := leD_anti h1 h2
  have e : ∀ t : Stp, tk (stp t) = [.inl 1, .inl t.1, .inl 1, .inr t.2.1.cps.toList, .inl 1, .inl t.2.2, .inl 0] := fun t => rfl
  rw [e, e] at this
  simp only [List.cons.injEq, Sum.inl.injEq, Sum.inr.injEq, and_true, true_and] at this
  obtain ⟨h1, h2, h3⟩ := this
  exact Prod.ext h1 (Prod.ext (W.str_of_cps h2) h3)
theorem srt_filter (A : List Stp) (p : Stp → Bool) : srt (A.filter p) = (srt A).filter p := by
  have p1 := List.mergeSort_perm (A.filter p) leS
  have p2 := (List.mergeSort_perm A leS).filter p
  exact List.Perm.eq_of_pairwise (le := fun a b => leS a b = true) (fun a b _ _ h1 h2 => leS_anti h1 h2) (leS_sorted _) ((leS_sorted A).filter p) (p1.trans p2.symm)
theorem sT_mem {B : List Tri} {s : Stp} : s ∈ sT B ↔ ∃ t ∈ B, s = (t.1, t.2.2, t.2.1) ∨ s = (t.2.1, t.2.2, t.1) := by
  unfold sT srt
  rw [(List.mergeSort_perm _ _).mem_iff]
  unfold rawS
  rw [List.mem_flatMap]
  simp
theorem sT_sym {B : List Tri} {a b : Int} {w : Str} (h : (a, w, b) ∈ sT B) : (b, w, a) ∈ sT B := by
  obtain ⟨t, ht, e⟩ := sT_mem.mp h
  refine sT_mem.mpr ⟨t, ht, ?_⟩
  rcases e with e | e
  · cases e; exact .inr rfl
  · cases e; exact .inl rfl
theorem rawS_len : ∀ B : List Tri, (rawS B).length = 2 * B.length
  | [] => rfl
  | t :: r => by
    have ih := rawS_len r
    unfold rawS at ih ⊢
    rw [List.flatMap_cons, List.length_append, ih]
    simp
    omega
theorem sT_len (B : List Tri) : (sT B).length = 2 * B.length := by
  unfold sT srt
  rw [List.length_mergeSort, rawS_len]
theorem sT_rg {n : Nat} {B : List Tri} (h : LnkOk n B) {s : Stp} (hs : s ∈ sT B) : (0 ≤ s.1 ∧ s.1 < (n : Int)) ∧ (0 ≤ s.2.2 ∧ s.2.2 < (n : Int)) := by
  obtain ⟨t, ht, e⟩ := sT_mem.mp hs
  have := h.lt t ht
  rcases e with e | e
  · subst e; exact ⟨⟨by simp only; omega, by simp only; omega⟩, by simp only; omega, by simp only; omega⟩
  · subst e; exact ⟨⟨by simp only; omega, by simp only; omega⟩, by simp only; omega, by simp only; omega⟩
theorem steps_ok {q : List Nat} {ws : List (List Nat)} (hq : QOk q) (hw : WOk ws) : m_law_steps [.st (.lst (wD ws)), .st (.str (tx q))] = some (.ol ((sD (sT (bT q ws))).map .st), [none, none]) := by
  have e1 := links_ok hq hw
  have hB := (bT_ok (q := q) hw.ne hq.len hw.num).len
  generalize hBe : bT q ws = B at e1 hB ⊢
  have lp := loopF_inv (tg := gT 3 (gsCons (gN 3) (gsCons (gN 4) (gsCons (gN 5) gsNil)))) (body := (fX (fExtend 2 (fLst (fCons (fTup (fCons (fFz (fP 3)) (fCons (fFz (fP 5)) (fCons (fFz (fP 4)) fNil)))) (fCons (fTup (fCons (fFz (fP 4)) (fCons (fFz (fP 5)) (fCons (fFz (fP 3)) fNil)))) fNil))))))
    (I := fun i ρ => ∃ s3 s4 s5, ρ = [some (.st (.lst (wD ws))), some (.st (.str (tx q))), some (.ol ((sD (rawS (B.take i))).map .st)), s3, s4, s5])
    (ds := tD B) (i := 0) (ρ := [some (.st (.lst (wD ws))), some (.st (.str (tx q))), some (.ol []), none, none, none]) ⟨none, none, none, rfl⟩ (by
      rintro j d ρ hd ⟨s3, s4, s5, rfl⟩
      rw [Nat.zero_add]
      have hj : j < B.length := by
        have := (List.getElem?_eq_some_iff.mp hd).1
        simpa [tD] using this
      have hdw : d = .tup [.int B[j].1, .int B[j].2.1, .str B[j].2.2] := by
        have e : (tD B)[j]? = some (.tup [.int B[j].1, .int B[j].2.1, .str B[j].2.2]) := by simp [tD, hj]
        rw [e] at hd
        exact (Option.some.inj hd).symm
      subst hdw
      have er : rawS (B.take (j + 1)) = rawS (B.take j) ++ [(B[j].1, B[j].2.2, B[j].2.1), (B[j].2.1, B[j].2.2, B[j].1)] := by
        unfold rawS
        rw [← List.take_append_getElem hj, List.flatMap_append, List.flatMap_singleton]
      have hl : (rawS (B.take j)).length ≤ 1000 := by
        rw [rawS_len]
        have : (B.take j).length ≤ B.length := by simp; omega
        omega
      have hb : ((sD (rawS (B.take j))).map OD.st).length + 2 ≤ big := by simp [big]; omega
      refine ⟨[some (.st (.lst (wD ws))), some (.st (.str (tx q))), some (.ol ((sD (rawS (B.take j))).map .st)), some (.st (.int B[j].1)), some (.st (.int B[j].2.1)), some (.st (.str B[j].2.2))], [some (.st (.lst (wD ws))), some (.st (.str (tx q))), some (.ol ((sD (rawS (B.take (j + 1)))).map .st)), some (.st (.int B[j].1)), some (.st (.int B[j].2.1)), some (.st (.str B[j].2.2))], by simp only [runM, outsOf, fSeq, fRet, fAsg, gN, fFz, fPeek, fBack, fDrop, fBin, fUn, fC, fCons, fNil, fLend, fCall, fCallK, pick, List.filterMap_cons, List.filterMap_nil, putBack, fIfS, fB, fNot, fAnd, fOr, fAndV, fOrV, fNext, fIf, fX, fLst, fTup, fMov, fPar, gs2, gs3, gT, gsCons, gsNil, fYes, gAdd_i, gLt_i, gSub_i, gDiv_i, gMod_i, gGt_i, gLe_i, gGe_i, gInt_i, gNeg_i, gAbs_i, gMax_i, gMin_i, OD.val, valL, valL_st, fItS, fFor, fLc, wipeR, fPart, fNoPart, fSl, fAppend, fExtend, fPop, fGet2, fD1, fDNew, keyD, gSetQ, gSetI, gSetD, stK_map, fItR1, fLRg, List.getElem?_cons_succ, List.getElem?_cons_zero, List.set_cons_succ, List.set_cons_zero, List.length_cons, List.length_nil, List.map_cons, List.map_nil, Option.map_some, Option.map_none, Nat.zero_add, Nat.reduceAdd, Nat.reduceLT, Nat.reduceEqDiff, and_self, big0, big1, big2, big3, big4, big5, if_true, if_false, ite_true, ite_false, Bool.not_true, Bool.not_false, Bool.true_and, Bool.false_and], ?_, _, _, _, rfl⟩
      rw [er]
      simp only [runM, outsOf, fSeq, fRet, fAsg, gN, fFz, fPeek, fBack, fDrop, fBin, fUn, fC, fCons, fNil, fLend, fCall, fCallK, pick, List.filterMap_cons, List.filterMap_nil, putBack, fIfS, fB, fNot, fAnd, fOr, fAndV, fOrV, fNext, fIf, fX, fLst, fTup, fMov, fPar, gs2, gs3, gT, gsCons, gsNil, fYes, gAdd_i, gLt_i, gSub_i, gDiv_i, gMod_i, gGt_i, gLe_i, gGe_i, gInt_i, gNeg_i, gAbs_i, gMax_i, gMin_i, OD.val, valL, valL_st, fItS, fFor, fLc, wipeR, fPart, fNoPart, fSl, fAppend, fExtend, fPop, fGet2, fD1, fDNew, keyD, gSetQ, gSetI, gSetD, stK_map, fItR1, fLRg, List.getElem?_cons_succ, List.getElem?_cons_zero, List.set_cons_succ, List.set_cons_zero, List.length_cons, List.length_nil, List.map_cons, List.map_nil, Option.map_some, Option.map_none, Nat.zero_add, Nat.reduceAdd, Nat.reduceLT, Nat.reduceEqDiff, and_self, big0, big1, big2, big3, big4, big5, if_true, if_false, ite_true, ite_false, Bool.not_true, Bool.not_false, Bool.true_and, Bool.false_and,if_pos hb]
      simp)
  obtain ⟨ρ', e2, s3, s4, s5, rfl⟩ := lp
  have et : B.take (0 + (tD B).length) = B := by simp [tD]
  rw [et] at e2
  have e3 := sorted_sD (A := rawS B) (rd_ol _)
  have e0 : rho0 N_law_steps [.st (.lst (wD ws)), .st (.str (tx q))] = [some (.st (.lst (wD ws))), some (.st (.str (tx q))), none, none, none, none] := rfl
  have e4 := val_ol (tD B)
  simp only [runM, outsOf, fSeq, fRet, fAsg, gN, fFz, fPeek, fBack, fDrop, fBin, fUn, fC, fCons, fNil, fLend, fCall, fCallK, pick, List.filterMap_cons, List.filterMap_nil, putBack, fIfS, fB, fNot, fAnd, fOr, fAndV, fOrV, fNext, fIf, fX, fLst, fTup, fMov, fPar, gs2, gs3, gT, gsCons, gsNil, fYes, gAdd_i, gLt_i, gSub_i, gDiv_i, gMod_i, gGt_i, gLe_i, gGe_i, gInt_i, gNeg_i, gAbs_i, gMax_i, gMin_i, OD.val, valL, valL_st, fItS, fFor, fLc, wipeR, fPart, fNoPart, fSl, fAppend, fExtend, fPop, fGet2, fD1, fDNew, keyD, gSetQ, gSetI, gSetD, stK_map, fItR1, fLRg, List.getElem?_cons_succ, List.getElem?_cons_zero, List.set_cons_succ, List.set_cons_zero, List.length_cons, List.length_nil, List.map_cons, List.map_nil, Option.map_some, Option.map_none, Nat.zero_add, Nat.reduceAdd, Nat.reduceLT, Nat.reduceEqDiff, and_self, big0, big1, big2, big3, big4, big5, if_true, if_false, ite_true, ite_false, Bool.not_true, Bool.not_false, Bool.true_and, Bool.false_and,m_law_steps, F_law_steps, e0, e1, e4, e2, e3]
  rfl
def ksOf : List Stp → List Int := List.foldl (fun ks s => if s.1 ∈ ks then ks else ks ++ [s.1]) []
theorem ksOf_app (L : List Stp) (s : Stp) : ksOf (L ++ [s]) = if s.1 ∈ ksOf L then ksOf L else ksOf L ++ [s.1] := by
  unfold ksOf
  rw [List.foldl_append]
  rfl
theorem rev_ind {α : Type} {P : List α → Prop} (h0 : P []) (h1 : ∀ l a, P l → P (l ++ [a])) (l : List α) : P l := by
  have : ∀ n (l : List α), l.length = n → P l := by
    intro n
    induction n with
    | zero => intro l hl; rw [List.length_eq_zero_iff.mp hl]; exact h0
    | succ n ih =>
      intro l hl
      have hne : l ≠ [] := by intro z; subst z; cases hl
      rw [← List.dropLast_concat_getLast hne]
      exact h1 _ _ (ih _ (by rw [List.length_dropLast, hl]; rfl))
  exact this _ l rfl
theorem ksOf_mem {L : List Stp} {a : Int} : a ∈ ksOf L ↔ ∃ s ∈ L, s.1 = a := by
  induction L using rev_ind with
  | h0 => simp [ksOf]
  | h1 L s ih =>
    rw [ksOf_app]
    by_cases h : s.1 ∈ ksOf L
    · rw [if_pos h, ih]
      constructor
      · rintro ⟨t, ht, e⟩; exact ⟨t, List.mem_append_left _ ht, e⟩
      · rintro ⟨t, ht, e⟩
        rcases List.mem_append.mp ht with z | z
        · exact ⟨t, z, e⟩
        · have : t = s := by simpa using z
          subst this
          exact ih.mp (e ▸ h)
    · rw [if_neg h, List.mem_append, ih]
      constructor
      · rintro (⟨t, ht, e⟩ | z)
        · exact ⟨t, List.mem_append_left _ ht, e⟩
        · have : a = s.1 := by simpa using z
          exact ⟨s, by simp, this.symm⟩
      · rintro ⟨t, ht, e⟩
        rcases List.mem_append.mp ht with z | z
        · exact .inl ⟨t, z, e⟩
        · have : t = s := by simpa using z
          subst this
          exact .inr (by simp [e])
theorem ksOf_nd (L : List Stp) : (ksOf L).Nodup := by
  induction L using rev_ind with
  | h0 => simp [ksOf]
  | h1 L s ih =>
    rw [ksOf_app]
    by_cases h : s.1 ∈ ksOf L
    · rw [if_pos h]; exact ih
    · rw [if_neg h, List.nodup_append]
      refine ⟨ih, by simp, fun a ha b hb => ?_⟩
      have : b = s.1 := by simpa using hb
      subst this
      rintro rfl
      exact h ha
theorem ksOf_len (L : List Stp) : (ksOf L).length ≤ L.length := by
  induction L using rev_ind with
  | h0 => simp [ksOf]
  | h1 L s ih =>
    rw [ksOf_app]
    by_cases h : s.1 ∈ ksOf L
    · rw [if_pos h]; simp; omega
    · rw [if_neg h]; simp; omega
def kvO (L : List Stp) : List (Key × OD) := (ksOf L).map fun a => (.inl a, .ol ((sD (atS L a)).map .st))
theorem keyIx_at {k : Key} : ∀ {ks : List Key} {j : Nat}, keyIx k ks = some j → ks[j]? = some k ∧ ∀ i < j, ks[i]? ≠ some k
  | [], j, h => by cases h
  | a :: r, j, h => by
    simp only [keyIx] at h
    by_cases e : a = k
    · rw [if_pos e] at h; cases h; exact ⟨by simp [e], fun i hi => absurd hi (Nat.not_lt_zero _)⟩
    · rw [if_neg e] at h
      obtain ⟨j', h1, rfl⟩ := Option.map_eq_some_iff.mp h
      obtain ⟨h2, h3⟩ := keyIx_at h1
      refine ⟨by simpa using h2, fun i hi => ?_⟩
      cases i with
      | zero => simpa using e
      | succ i => simpa using h3 i (by omega)
theorem keyIx_no {k : Key} : ∀ {ks : List Key}, keyIx k ks = none → k ∉ ks
  | [], _ => by simp
  | a :: r, h => by
    simp only [keyIx] at h
    by_cases e : a = k
    · rw [if_pos e] at h; cases h
    · rw [if_neg e] at h
      have := keyIx_no (Option.map_eq_none_iff.mp h)
      simp only [List.mem_cons, not_or]
      exact ⟨fun z => e z.symm, this⟩
theorem atS_app (L : List Stp) (s : Stp) (a : Int) : atS (L ++ [s]) a = if s.1 = a then atS L a ++ [s] else atS L a := by
  unfold atS
  rw [List.filter_append]
  by_cases h : s.1 = a
  · simp [h]
  · simp [h]
theorem sdK_ok (L : List Stp) (s : Stp) : ∃ us, (sdK (kvO L) (.inl s.1)).1[(sdK (kvO L) (.inl s.1)).2]? = some (.inl s.1, .ol us) ∧ us.length ≤ L.length ∧ (sdK (kvO L) (.inl s.1)).1.set (sdK (kvO L) (.inl s.1)).2 (.inl s.1, .ol (us ++ [.st (stp s)])) = kvO (L ++ [s]) := by
  have hk : (kvO L).map (·.1) = (ksOf L).map Sum.inl := by simp [kvO]
  unfold sdK
  rw [hk]
  cases h : keyIx (.inl s.1) ((ksOf L).map Sum.inl) with
  | some j =>
    obtain ⟨h1, h2⟩ := keyIx_at h
    rw [List.getElem?_map] at h1
    obtain ⟨a, ha, e⟩ := Option.map_eq_some_iff.mp h1
    cases Sum.inl.inj e
    have hj := (List.getElem?_eq_some_iff.mp ha).1
    have hm : s.1 ∈ ksOf L := List.mem_of_getElem? ha
    refine ⟨(sD (atS L s.1)).map .st, by simp [kvO, ha], by simp [atS]; exact List.length_filter_le _ _, ?_⟩
    simp only
    unfold kvO
    rw [ksOf_app, if_pos hm]
    apply List.ext_getElem?
    intro i
    rw [List.getElem?_set]
    by_cases hi : j = i
    · subst hi
      rw [if_pos rfl]
      simp only [List.length_map, hj, if_true]
      rw [List.getElem?_map, ha, Option.map_some, atS_app, if_pos rfl]
      simp
    · rw [if_neg hi, List.getElem?_map, List.getElem?_map]
      cases hi2 : (ksOf L)[i]? with
      | none => rfl
      | some b =>
        have hne : s.1 ≠ b := by
          rintro rfl
          obtain ⟨hi3, e3⟩ := List.getElem?_eq_some_iff.mp hi2
          obtain ⟨hj3, e4⟩ := List.getElem?_eq_some_iff.mp ha
          rcases Nat.lt_or_gt_of_ne hi with z | z
          · exact List.pairwise_iff_getElem.mp (ksOf_nd L) j i hj3 hi3 z (e4.trans e3.symm)
          · exact List.pairwise_iff_getElem.mp (ksOf_nd L) i j hi3 hj3 z (e3.trans e4.symm)
        simp only [Option.map_some]
        rw [atS_app, if_neg hne]
  | none =>
    have hn : s.1 ∉ ksOf L := fun z => keyIx_no h (List.mem_map.mpr ⟨_, z, rfl⟩)
    refine ⟨[], by simp, by simp, ?_⟩
    simp only
    unfold kvO
    rw [ksOf_app, if_neg hn]
    have e0 : atS L s.1 = [] := by
      unfold atS
      rw [List.filter_eq_nil_iff]
      intro t ht e
      exact hn (ksOf_mem.mpr ⟨t, ht, by simpa using e⟩)
    rw [List.set_append_right _ _ (by simp)]
    simp only [List.length_map, Nat.sub_self, List.set_cons_zero, List.map_append, List.map_cons, List.map_nil, List.nil_append]
    rw [atS_app, if_pos rfl, e0]
    congr 1
    refine List.map_congr_left fun b hb => ?_
    have hne : s.1 ≠ b := fun z => hn (z ▸ hb)
    rw [atS_app, if_neg hne]
end Lw
set_option Elab.async false
set_option linter.all false
set_option maxRecDepth 100000
set_option maxHeartbeats 400000
namespace Lw
open PySem L2 Qy
theorem kvO_len (L : List Stp) : (kvO L).length ≤ L.length := by simpa [kvO] using ksOf_len L
theorem sdApp_ok {L : List Stp} {s : Stp} {ρ ρ1 ρ2 : Rho} {fk f : Fe} (hL : L.length ≤ 10000) (h0 : ρ[2]? = some (some (.oK (kvO L)))) (hk : fk (ρ.set 2 none) = some (.st (.int s.1), ρ1)) (hf : f ρ1 = some (.st (stp s), ρ2)) :
    fSdApp 2 fk f ρ = some (.st .non, ρ2.set 2 (some (.oK (kvO (L ++ [s]))))) := by
  obtain ⟨us, h1, h2, h3⟩ := sdK_ok L s
  have hb : (kvO L).length ≤ big ∧ us.length ≤ big := by
    have := kvO_len L
    unfold big
    omega
  unfold fSdApp
  rw [h0]
  simp only [hk, keyD]
  rw [h1]
  simp only [hf]
  rw [if_pos hb, h3]
noncomputable def SoB : Fs := (fSeq (fX (fSdApp 2 (fFz (fP 3)) (fTup (fCons (fFz (fP 3)) (fCons (fFz (fP 5)) (fCons (fFz (fP 4)) fNil)))))) (fX (fSdApp 2 (fFz (fP 4)) (fTup (fCons (fFz (fP 4)) (fCons (fFz (fP 5)) (fCons (fFz (fP 3)) fNil)))))))
theorem soB_ok {L : List Stp} {x0 x1 x6 x7 : Option OD} {a b : Int} {w : Str} (hL : L.length ≤ 9000) :
    SoB [x0, x1, some (.oK (kvO L)), some (.st (.int a)), some (.st (.int b)), some (.st (.str w)), x6, x7] = some (.nx [x0, x1, some (.oK (kvO (L ++ [(a, w, b), (b, w, a)]))), some (.st (.int a)), some (.st (.int b)), some (.st (.str w)), x6, x7]) := by
  have e1 := sdApp_ok (L := L) (s := (a, w, b)) (fk := (fFz (fP 3))) (f := (fTup (fCons (fFz (fP 3)) (fCons (fFz (fP 5)) (fCons (fFz (fP 4)) fNil))))) (ρ := [x0, x1, some (.oK (kvO L)), some (.st (.int a)), some (.st (.int b)), some (.st (.str w)), x6, x7]) (ρ1 := [x0, x1, none, some (.st (.int a)), some (.st (.int b)), some (.st (.str w)), x6, x7]) (ρ2 := [x0, x1, none, some (.st (.int a)), some (.st (.int b)), some (.st (.str w)), x6, x7]) (by omega) rfl (by simp only [runM, outsOf, fSeq, fRet, fAsg, gN, fFz, fPeek, fBack, fDrop, fBin, fUn, fC, fCons, fNil, fLend, fCall, fCallK, pick, List.filterMap_cons, List.filterMap_nil, putBack, fIfS, fB, fNot, fAnd, fOr, fAndV, fOrV, fNext, fIf, fX, fLst, fTup, fMov, fPar, gs2, gs3, gT, gsCons, gsNil, fYes, gAdd_i, gLt_i, gSub_i, gDiv_i, gMod_i, gGt_i, gLe_i, gGe_i, gInt_i, gNeg_i, gAbs_i, gMax_i, gMin_i, OD.val, valL, valL_st, fItS, fFor, fLc, wipeR, fPart, fNoPart, fSl, fAppend, fExtend, fPop, fGet2, fD1, fDNew, keyD, gSetQ, gSetI, gSetD, stK_map, fItR1, fLRg, List.getElem?_cons_succ, List.getElem?_cons_zero, List.set_cons_succ, List.set_cons_zero, List.length_cons, List.length_nil, List.map_cons, List.map_nil, Option.map_some, Option.map_none, Nat.zero_add, Nat.reduceAdd, Nat.reduceLT, Nat.reduceEqDiff, and_self, big0, big1, big2, big3, big4, big5, if_true, if_false, ite_true, ite_false, Bool.not_true, Bool.not_false, Bool.true_and, Bool.false_and]) (by simp only [runM, outsOf, fSeq, fRet, fAsg, gN, fFz, fPeek, fBack, fDrop, fBin, fUn, fC, fCons, fNil, fLend, fCall, fCallK, pick, List.filterMap_cons, List.filterMap_nil, putBack, fIfS, fB, fNot, fAnd, fOr, fAndV, fOrV, fNext, fIf, fX, fLst, fTup, fMov, fPar, gs2, gs3, gT, gsCons, gsNil, fYes, gAdd_i, gLt_i, gSub_i, gDiv_i, gMod_i, gGt_i, gLe_i, gGe_i, gInt_i, gNeg_i, gAbs_i, gMax_i, gMin_i, OD.val, valL, valL_st, fItS, fFor, fLc, wipeR, fPart, fNoPart, fSl, fAppend, fExtend, fPop, fGet2, fD1, fDNew, keyD, gSetQ, gSetI, gSetD, stK_map, fItR1, fLRg, List.getElem?_cons_succ, List.getElem?_cons_zero, List.set_cons_succ, List.set_cons_zero, List.length_cons, List.length_nil, List.map_cons, List.map_nil, Option.map_some, Option.map_none, Nat.zero_add, Nat.reduceAdd, Nat.reduceLT, Nat.reduceEqDiff, and_self, big0, big1, big2, big3, big4, big5, if_true, if_false, ite_true, ite_false, Bool.not_true, Bool.not_false, Bool.true_and, Bool.false_and])
  have e2 := sdApp_ok (L := L ++ [(a, w, b)]) (s := (b, w, a)) (fk := (fFz (fP 4))) (f := (fTup (fCons (fFz (fP 4)) (fCons (fFz (fP 5)) (fCons (fFz (fP 3)) fNil))))) (ρ := [x0, x1, some (.oK (kvO (L ++ [(a, w, b)]))), some (.st (.int a)), some (.st (.int b)), some (.st (.str w)), x6, x7]) (ρ1 := [x0, x1, none, some (.st (.int a)), some (.st (.int b)), some (.st (.str w)), x6, x7]) (ρ2 := [x0, x1, none, some (.st (.int a)), some (.st (.int b)), some (.st (.str w)), x6, x7]) (by simp; omega) rfl (by simp only [runM, outsOf, fSeq, fRet, fAsg, gN, fFz, fPeek, fBack, fDrop, fBin, fUn, fC, fCons, fNil, fLend, fCall, fCallK, pick, List.filterMap_cons, List.filterMap_nil, putBack, fIfS, fB, fNot, fAnd, fOr, fAndV, fOrV, fNext, fIf, fX, fLst, fTup, fMov, fPar, gs2, gs3, gT, gsCons, gsNil, fYes, gAdd_i, gLt_i, gSub_i, gDiv_i, gMod_i, gGt_i, gLe_i, gGe_i, gInt_i, gNeg_i, gAbs_i, gMax_i, gMin_i, OD.val, valL, valL_st, fItS, fFor, fLc, wipeR, fPart, fNoPart, fSl, fAppend, fExtend, fPop, fGet2, fD1, fDNew, keyD, gSetQ, gSetI, gSetD, stK_map, fItR1, fLRg, List.getElem?_cons_succ, List.getElem?_cons_zero, List.set_cons_succ, List.set_cons_zero, List.length_cons, List.length_nil, List.map_cons, List.map_nil, Option.map_some, Option.map_none, Nat.zero_add, Nat.reduceAdd, Nat.reduceLT, Nat.reduceEqDiff, and_self, big0, big1, big2, big3, big4, big5, if_true, if_false, ite_true, ite_false, Bool.not_true, Bool.not_false, Bool.true_and, Bool.false_and]) (by simp only [runM, outsOf, fSeq, fRet, fAsg, gN, fFz, fPeek, fBack, fDrop, fBin, fUn, fC, fCons, fNil, fLend, fCall, fCallK, pick, List.filterMap_cons, List.filterMap_nil, putBack, fIfS, fB, fNot, fAnd, fOr, fAndV, fOrV, fNext, fIf, fX, fLst, fTup, fMov, fPar, gs2, gs3, gT, gsCons, gsNil, fYes, gAdd_i, gLt_i, gSub_i, gDiv_i, gMod_i, gGt_i, gLe_i, gGe_i, gInt_i, gNeg_i, gAbs_i, gMax_i, gMin_i, OD.val, valL, valL_st, fItS, fFor, fLc, wipeR, fPart, fNoPart, fSl, fAppend, fExtend, fPop, fGet2, fD1, fDNew, keyD, gSetQ, gSetI, gSetD, stK_map, fItR1, fLRg, List.getElem?_cons_succ, List.getElem?_cons_zero, List.set_cons_succ, List.set_cons_zero, List.length_cons, List.length_nil, List.map_cons, List.map_nil, Option.map_some, Option.map_none, Nat.zero_add, Nat.reduceAdd, Nat.reduceLT, Nat.reduceEqDiff, and_self, big0, big1, big2, big3, big4, big5, if_true, if_false, ite_true, ite_false, Bool.not_true, Bool.not_false, Bool.true_and, Bool.false_and])
  simp only [List.set_cons_succ, List.set_cons_zero, List.append_assoc, List.cons_append, List.nil_append] at e1 e2
  simp only [runM, outsOf, fSeq, fRet, fAsg, gN, fFz, fPeek, fBack, fDrop, fBin, fUn, fC, fCons, fNil, fLend, fCall, fCallK, pick, List.filterMap_cons, List.filterMap_nil, putBack, fIfS, fB, fNot, fAnd, fOr, fAndV, fOrV, fNext, fIf, fX, fLst, fTup, fMov, fPar, gs2, gs3, gT, gsCons, gsNil, fYes, gAdd_i, gLt_i, gSub_i, gDiv_i, gMod_i, gGt_i, gLe_i, gGe_i, gInt_i, gNeg_i, gAbs_i, gMax_i, gMin_i, OD.val, valL, valL_st, fItS, fFor, fLc, wipeR, fPart, fNoPart, fSl, fAppend, fExtend, fPop, fGet2, fD1, fDNew, keyD, gSetQ, gSetI, gSetD, stK_map, fItR1, fLRg, List.getElem?_cons_succ, List.getElem?_cons_zero, List.set_cons_succ, List.set_cons_zero, List.length_cons, List.length_nil, List.map_cons, List.map_nil, Option.map_some, Option.map_none, Nat.zero_add, Nat.reduceAdd, Nat.reduceLT, Nat.reduceEqDiff, and_self, big0, big1, big2, big3, big4, big5, if_true, if_false, ite_true, ite_false, Bool.not_true, Bool.not_false, Bool.true_and, Bool.false_and,SoB, e1, e2]
def skA (L : List Stp) (ks : List Int) : List (Key × D) := ks.map fun a => (.inl a, .lst (sD (srt (atS L a))))
def sK (B : List Tri) : List (Key × D) := skA (rawS B) (ksOf (rawS B))
theorem any_skA (L : List Stp) (g : Int) : ∀ ks : List Int, ((skA L ks).any fun kv => decide (kv.1 = .inl g)) = decide (g ∈ ks)
  | [] => rfl
  | a :: r => by
    show (decide ((Sum.inl a : Key) = .inl g) || ((skA L r).any _)) = _
    rw [any_skA L g r]
    by_cases h : a = g
    · subst h; simp
    · have : g ≠ a := fun z => h z.symm
      simp [h, this]
theorem val_skA (L : List Stp) (g : Int) : ∀ ks : List Int, valA (skA L ks) (.inl g) = if g ∈ ks then some (.lst (sD (srt (atS L g)))) else none
  | [] => rfl
  | a :: r => by
    show valA ((Sum.inl a, D.lst (sD (srt (atS L a)))) :: skA L r) (.inl g) = _
    rw [valA_cons, val_skA L g r]
    by_cases h : a = g
    · subst h; simp
    · have : g ≠ a := fun z => h z.symm
      have h' : ¬ ((Sum.inl a : Key) = .inl g) := fun z => h (Sum.inl.inj z)
      simp [h', this]
noncomputable def SoV : Fe := (fFz (fE (fUn gSorted (fP 7))))
theorem soC_ok {L : List Stp} {x0 x1 x2 x3 x4 x5 : Option OD} : ∀ (ks acc : List Int), (acc ++ ks).Nodup → acc.length + ks.length ≤ 1000 →
    compD [6, 7] (gT 2 (gsCons (gN 6) (gsCons (gN 7) gsNil))) fYes (fFz (fP 6)) SoV (ks.map fun a => .tup [.int a, .lst (sD (atS L a))]) [x0, x1, x2, x3, x4, x5, none, none] (skA L acc) = some (skA L (acc ++ ks), [x0, x1, x2, x3, x4, x5, none, none])
  | [], acc, _, _ => by simp [compD]
  | a :: ks, acc, nd, hl => by
    have ih := soC_ok (L := L) (x0 := x0) (x1 := x1) (x2 := x2) (x3 := x3) (x4 := x4) (x5 := x5) ks (acc ++ [a]) (by simpa using nd) (by simp at hl ⊢; omega)
    have hna : a ∉ acc := fun z => (List.nodup_append.mp nd).2.2 a z a (by simp) rfl
    have ep : putA (skA L acc) (.inl a) (.lst (sD (srt (atS L a)))) = skA L (acc ++ [a]) := by
      unfold putA
      rw [any_skA, if_neg (by simpa using hna)]
      simp [skA]
    have es := sorted_sD (A := atS L a) (o := .st (.lst (sD (atS L a)))) rfl
    have hb : (skA L acc).length ≤ big := by simp [skA, big]; simp at hl; omega
    rw [List.map_cons]
    unfold compD
    have g1 : gT 2 (gsCons (gN 6) (gsCons (gN 7) gsNil)) (.st (.tup [.int a, .lst (sD (atS L a))])) [x0, x1, x2, x3, x4, x5, none, none] = some [x0, x1, x2, x3, x4, x5, some (.st (.int a)), some (.st (.lst (sD (atS L a))))] := by simp only [runM, outsOf, fSeq, fRet, fAsg, gN, fFz, fPeek, fBack, fDrop, fBin, fUn, fC, fCons, fNil, fLend, fCall, fCallK, pick, List.filterMap_cons, List.filterMap_nil, putBack, fIfS, fB, fNot, fAnd, fOr, fAndV, fOrV, fNext, fIf, fX, fLst, fTup, fMov, fPar, gs2, gs3, gT, gsCons, gsNil, fYes, gAdd_i, gLt_i, gSub_i, gDiv_i, gMod_i, gGt_i, gLe_i, gGe_i, gInt_i, gNeg_i, gAbs_i, gMax_i, gMin_i, OD.val, valL, valL_st, fItS, fFor, fLc, wipeR, fPart, fNoPart, fSl, fAppend, fExtend, fPop, fGet2, fD1, fDNew, keyD, gSetQ, gSetI, gSetD, stK_map, fItR1, fLRg, List.getElem?_cons_succ, List.getElem?_cons_zero, List.set_cons_succ, List.set_cons_zero, List.length_cons, List.length_nil, List.map_cons, List.map_nil, Option.map_some, Option.map_none, Nat.zero_add, Nat.reduceAdd, Nat.reduceLT, Nat.reduceEqDiff, and_self, big0, big1, big2, big3, big4, big5, if_true, if_false, ite_true, ite_false, Bool.not_true, Bool.not_false, Bool.true_and, Bool.false_and]
    have g2 : SoV [x0, x1, x2, x3, x4, x5, some (.st (.int a)), some (.st (.lst (sD (atS L a))))] = some (.st (.lst (sD (srt (atS L a)))), [x0, x1, x2, x3, x4, x5, some (.st (.int a)), some (.st (.lst (sD (atS L a))))]) := by
      simp only [runM, outsOf, fSeq, fRet, fAsg, gN, fFz, fPeek, fBack, fDrop, fBin, fUn, fC, fCons, fNil, fLend, fCall, fCallK, pick, List.filterMap_cons, List.filterMap_nil, putBack, fIfS, fB, fNot, fAnd, fOr, fAndV, fOrV, fNext, fIf, fX, fLst, fTup, fMov, fPar, gs2, gs3, gT, gsCons, gsNil, fYes, gAdd_i, gLt_i, gSub_i, gDiv_i, gMod_i, gGt_i, gLe_i, gGe_i, gInt_i, gNeg_i, gAbs_i, gMax_i, gMin_i, OD.val, valL, valL_st, fItS, fFor, fLc, wipeR, fPart, fNoPart, fSl, fAppend, fExtend, fPop, fGet2, fD1, fDNew, keyD, gSetQ, gSetI, gSetD, stK_map, fItR1, fLRg, List.getElem?_cons_succ, List.getElem?_cons_zero, List.set_cons_succ, List.set_cons_zero, List.length_cons, List.length_nil, List.map_cons, List.map_nil, Option.map_some, Option.map_none, Nat.zero_add, Nat.reduceAdd, Nat.reduceLT, Nat.reduceEqDiff, and_self, big0, big1, big2, big3, big4, big5, if_true, if_false, ite_true, ite_false, Bool.not_true, Bool.not_false, Bool.true_and, Bool.false_and,SoV, es]
    have g3 : fFz (fP 6) [x0, x1, x2, x3, x4, x5, some (.st (.int a)), some (.st (.lst (sD (atS L a))))] = some (.st (.int a), [x0, x1, x2, x3, x4, x5, some (.st (.int a)), some (.st (.lst (sD (atS L a))))]) := by simp only [runM, outsOf, fSeq, fRet, fAsg, gN, fFz, fPeek, fBack, fDrop, fBin, fUn, fC, fCons, fNil, fLend, fCall, fCallK, pick, List.filterMap_cons, List.filterMap_nil, putBack, fIfS, fB, fNot, fAnd, fOr, fAndV, fOrV, fNext, fIf, fX, fLst, fTup, fMov, fPar, gs2, gs3, gT, gsCons, gsNil, fYes, gAdd_i, gLt_i, gSub_i, gDiv_i, gMod_i, gGt_i, gLe_i, gGe_i, gInt_i, gNeg_i, gAbs_i, gMax_i, gMin_i, OD.val, valL, valL_st, fItS, fFor, fLc, wipeR, fPart, fNoPart, fSl, fAppend, fExtend, fPop, fGet2, fD1, fDNew, keyD, gSetQ, gSetI, gSetD, stK_map, fItR1, fLRg, List.getElem?_cons_succ, List.getElem?_cons_zero, List.set_cons_succ, List.set_cons_zero, List.length_cons, List.length_nil, List.map_cons, List.map_nil, Option.map_some, Option.map_none, Nat.zero_add, Nat.reduceAdd, Nat.reduceLT, Nat.reduceEqDiff, and_self, big0, big1, big2, big3, big4, big5, if_true, if_false, ite_true, ite_false, Bool.not_true, Bool.not_false, Bool.true_and, Bool.false_and]
    simp only [g1, fYes, g3, g2, keyD, if_pos hb, ep]
    have ew : wipeR [x0, x1, x2, x3, x4, x5, some (.st (.int a)), some (.st (.lst (sD (atS L a))))] [6, 7] = [x0, x1, x2, x3, x4, x5, none, none] := by simp [wipeR]
    rw [ew, ih]
    simp
theorem steps_of_ok {q : List Nat} {ws : List (List Nat)} (hq : QOk q) (hw : WOk ws) : m_steps_of [.st (lotD ws), .st (.str (tx q))] = some (.oK (stD (sK (bT q ws))), [none, none]) := by
  have e1 := bridges_of_ok hq hw
  have hB := (bT_ok (q := q) hw.ne hq.len hw.num).len
  generalize hBe : bT q ws = B at e1 hB ⊢
  have lp := loopF_inv (tg := gT 3 (gsCons (gN 3) (gsCons (gN 4) (gsCons (gN 5) gsNil)))) (body := SoB)
    (I := fun i ρ => ∃ s3 s4 s5, ρ = [some (.st (lotD ws)), some (.st (.str (tx q))), some (.oK (kvO (rawS (B.take i)))), s3, s4, s5, none, none])
    (ds := tD B) (i := 0) (ρ := [some (.st (lotD ws)), some (.st (.str (tx q))), some (.oK []), none, none, none, none, none]) ⟨none, none, none, rfl⟩ (by
      rintro j d ρ hd ⟨s3, s4, s5, rfl⟩
      rw [Nat.zero_add]
      have hj : j < B.length := by
        have := (List.getElem?_eq_some_iff.mp hd).1
        simpa [tD] using this
      have hdw : d = .tup [.int B[j].1, .int B[j].2.1, .str B[j].2.2] := by
        have e : (tD B)[j]? = some (.tup [.int B[j].1, .int B[j].2.1, .str B[j].2.2]) := by simp [tD, hj]
        rw [e] at hd
        exact (Option.some.inj hd).symm
      subst hdw
      have er : rawS (B.take (j + 1)) = rawS (B.take j) ++ [(B[j].1, B[j].2.2, B[j].2.1), (B[j].2.1, B[j].2.2, B[j].1)] := by
        unfold rawS
        rw [← List.take_append_getElem hj, List.flatMap_append, List.flatMap_singleton]
      have hl : (rawS (B.take j)).length ≤ 1000 := by
        rw [rawS_len]
        have : (B.take j).length ≤ B.length := by simp; omega
        omega
      have hso := soB_ok (L := rawS (B.take j)) (x0 := some (.st (lotD ws))) (x1 := some (.st (.str (tx q)))) (x6 := none) (x7 := none) (a := B[j].1) (b := B[j].2.1) (w := B[j].2.2) (by omega)
      rw [← er] at hso
      exact ⟨[some (.st (lotD ws)), some (.st (.str (tx q))), some (.oK (kvO (rawS (B.take j)))), some (.st (.int B[j].1)), some (.st (.int B[j].2.1)), some (.st (.str B[j].2.2)), none, none], _, by simp only [runM, outsOf, fSeq, fRet, fAsg, gN, fFz, fPeek, fBack, fDrop, fBin, fUn, fC, fCons, fNil, fLend, fCall, fCallK, pick, List.filterMap_cons, List.filterMap_nil, putBack, fIfS, fB, fNot, fAnd, fOr, fAndV, fOrV, fNext, fIf, fX, fLst, fTup, fMov, fPar, gs2, gs3, gT, gsCons, gsNil, fYes, gAdd_i, gLt_i, gSub_i, gDiv_i, gMod_i, gGt_i, gLe_i, gGe_i, gInt_i, gNeg_i, gAbs_i, gMax_i, gMin_i, OD.val, valL, valL_st, fItS, fFor, fLc, wipeR, fPart, fNoPart, fSl, fAppend, fExtend, fPop, fGet2, fD1, fDNew, keyD, gSetQ, gSetI, gSetD, stK_map, fItR1, fLRg, List.getElem?_cons_succ, List.getElem?_cons_zero, List.set_cons_succ, List.set_cons_zero, List.length_cons, List.length_nil, List.map_cons, List.map_nil, Option.map_some, Option.map_none, Nat.zero_add, Nat.reduceAdd, Nat.reduceLT, Nat.reduceEqDiff, and_self, big0, big1, big2, big3, big4, big5, if_true, if_false, ite_true, ite_false, Bool.not_true, Bool.not_false, Bool.true_and, Bool.false_and], hso, _, _, _, rfl⟩)
  obtain ⟨ρ', e2, s3, s4, s5, rfl⟩ := lp
  have et : B.take (0 + (tD B).length) = B := by simp [tD]
  rw [et] at e2
  have hn : (ksOf (rawS B)).length ≤ 1000 := by have := ksOf_len (rawS B); rw [rawS_len] at this; omega
  have e3 := soC_ok (L := rawS B) (x0 := some (.st (lotD ws))) (x1 := some (.st (.str (tx q)))) (x2 := none) (x3 := s3) (x4 := s4) (x5 := s5) (ksOf (rawS B)) [] (by simpa using ksOf_nd _) (by simpa using hn)
  have ei : itemsD (valK (kvO (rawS B))) = (ksOf (rawS B)).map fun a => .tup [.int a, .lst (sD (atS (rawS B) a))] := by
    rw [valK_map]
    unfold itemsD kvO
    rw [List.map_map, List.map_map]
    refine List.map_congr_left fun a _ => ?_
    simp only [Function.comp, val_ol, kDd]
  have e0 : rho0 N_steps_of [.st (lotD ws), .st (.str (tx q))] = [some (.st (lotD ws)), some (.st (.str (tx q))), none, none, none, none, none, none] := rfl
  have eF : F_steps_of = (fSeq (fAsg fDNew (gN 2)) (fSeq (fFor (fItS (fFz (fE (fCall m_bridges_of (fCons (fFz (fP 0)) (fCons (fFz (fP 1)) fNil)) [none, none])))) (gT 3 (gsCons (gN 3) (gsCons (gN 4) (gsCons (gN 5) gsNil)))) SoB) (fRet (fDcI [6, 7] 2 (gT 2 (gsCons (gN 6) (gsCons (gN 7) gsNil))) fYes (fFz (fP 6)) SoV)))) := rfl
  have ew : wipeR [some (.st (lotD ws)), some (.st (.str (tx q))), none, s3, s4, s5, none, none] [6, 7] = [some (.st (lotD ws)), some (.st (.str (tx q))), none, s3, s4, s5, none, none] := by simp [wipeR]
  have e4 : fDcI [6, 7] 2 (gT 2 (gsCons (gN 6) (gsCons (gN 7) gsNil))) fYes (fFz (fP 6)) SoV [some (.st (lotD ws)), some (.st (.str (tx q))), some (.oK (kvO (rawS B))), s3, s4, s5, none, none] = some (.oK (stD (sK B)), [some (.st (lotD ws)), some (.st (.str (tx q))), none, s3, s4, s5, none, none]) := by
    unfold fDcI
    simp only [List.getElem?_cons_succ, List.getElem?_cons_zero, List.set_cons_succ, List.set_cons_zero]
    rw [ei, ew]
    rw [show ([] : List (Key × D)) = skA (rawS B) [] from rfl, e3]
    simp only [List.nil_append, ew]
    rfl
  rw [m_steps_of, runM, eF]
  simp only [runM, outsOf, fSeq, fRet, fAsg, gN, fFz, fPeek, fBack, fDrop, fBin, fUn, fC, fCons, fNil, fLend, fCall, fCallK, pick, List.filterMap_cons, List.filterMap_nil, putBack, fIfS, fB, fNot, fAnd, fOr, fAndV, fOrV, fNext, fIf, fX, fLst, fTup, fMov, fPar, gs2, gs3, gT, gsCons, gsNil, fYes, gAdd_i, gLt_i, gSub_i, gDiv_i, gMod_i, gGt_i, gLe_i, gGe_i, gInt_i, gNeg_i, gAbs_i, gMax_i, gMin_i, OD.val, valL, valL_st, fItS, fFor, fLc, wipeR, fPart, fNoPart, fSl, fAppend, fExtend, fPop, fGet2, fD1, fDNew, keyD, gSetQ, gSetI, gSetD, stK_map, fItR1, fLRg, List.getElem?_cons_succ, List.getElem?_cons_zero, List.set_cons_succ, List.set_cons_zero, List.length_cons, List.length_nil, List.map_cons, List.map_nil, Option.map_some, Option.map_none, Nat.zero_add, Nat.reduceAdd, Nat.reduceLT, Nat.reduceEqDiff, and_self, big0, big1, big2, big3, big4, big5, if_true, if_false, ite_true, ite_false, Bool.not_true, Bool.not_false, Bool.true_and, Bool.false_and,e0, e1, val_ol, e2, e4]
theorem val_sK (B : List Tri) (a : Int) : valA (sK B) (.inl a) = if a ∈ ksOf (rawS B) then some (.lst (sD (atS (sT B) a))) else none := by
  unfold sK
  rw [val_skA]
  have : srt (atS (rawS B) a) = atS (sT B) a := srt_filter (rawS B) _
  rw [this]
theorem atS_none {B : List Tri} {a : Int} (h : a ∉ ksOf (rawS B)) : atS (sT B) a = [] := by
  unfold atS
  rw [List.filter_eq_nil_iff]
  intro t ht e
  have ht' : t ∈ rawS B := (List.mergeSort_perm _ _).mem_iff.mp ht
  exact h (ksOf_mem.mpr ⟨t, ht', by simpa using e⟩)
/-- steps.get(a, []), looked at -/
theorem get_sK {B : List Tri} {a : Int} {x : OD} (hx : x.rd = some (.dK (sK B))) {oa : Fo} {fk : Fe} {ρ ρ1 ρ2 : Rho} (h1 : oa.1 ρ = some (x, ρ1)) (h2 : fk ρ1 = some (.st (.int a), ρ2)) :
    ∃ o, fGet2 oa fk (fLst fNil) ρ = some (o, oa.2 x ρ2) ∧ o.rd = some (.lst (sD (atS (sT B) a))) ∧ o.val = .lst (sD (atS (sT B) a)) ∧ o.py = (D.lst (sD (atS (sT B) a))).py := by
  have hv := val_sK B a
  by_cases h : a ∈ ksOf (rawS B)
  · rw [if_pos h] at hv
    refine ⟨.st (.lst (sD (atS (sT B) a))), ?_, rfl, rfl, rfl⟩
    unfold fGet2
    simp only [h1, h2]
    simp only [runM, outsOf, fSeq, fRet, fAsg, gN, fFz, fPeek, fBack, fDrop, fBin, fUn, fC, fCons, fNil, fLend, fCall, fCallK, pick, List.filterMap_cons, List.filterMap_nil, putBack, fIfS, fB, fNot, fAnd, fOr, fAndV, fOrV, fNext, fIf, fX, fLst, fTup, fMov, fPar, gs2, gs3, gT, gsCons, gsNil, fYes, gAdd_i, gLt_i, gSub_i, gDiv_i, gMod_i, gGt_i, gLe_i, gGe_i, gInt_i, gNeg_i, gAbs_i, gMax_i, gMin_i, OD.val, valL, valL_st, fItS, fFor, fLc, wipeR, fPart, fNoPart, fSl, fAppend, fExtend, fPop, fGet2, fD1, fDNew, keyD, gSetQ, gSetI, gSetD, stK_map, fItR1, fLRg, List.getElem?_cons_succ, List.getElem?_cons_zero, List.set_cons_succ, List.set_cons_zero, List.length_cons, List.length_nil, List.map_cons, List.map_nil, Option.map_some, Option.map_none, Nat.zero_add, Nat.reduceAdd, Nat.reduceLT, Nat.reduceEqDiff, and_self, big0, big1, big2, big3, big4, big5, if_true, if_false, ite_true, ite_false, Bool.not_true, Bool.not_false, Bool.true_and, Bool.false_and,hx, hv]
  · rw [if_neg h] at hv
    refine ⟨.ol [], ?_, by rw [atS_none h]; rfl, by rw [atS_none h]; rfl, by rw [atS_none h]; rfl⟩
    unfold fGet2
    simp only [h1, h2]
    simp only [runM, outsOf, fSeq, fRet, fAsg, gN, fFz, fPeek, fBack, fDrop, fBin, fUn, fC, fCons, fNil, fLend, fCall, fCallK, pick, List.filterMap_cons, List.filterMap_nil, putBack, fIfS, fB, fNot, fAnd, fOr, fAndV, fOrV, fNext, fIf, fX, fLst, fTup, fMov, fPar, gs2, gs3, gT, gsCons, gsNil, fYes, gAdd_i, gLt_i, gSub_i, gDiv_i, gMod_i, gGt_i, gLe_i, gGe_i, gInt_i, gNeg_i, gAbs_i, gMax_i, gMin_i, OD.val, valL, valL_st, fItS, fFor, fLc, wipeR, fPart, fNoPart, fSl, fAppend, fExtend, fPop, fGet2, fD1, fDNew, keyD, gSetQ, gSetI, gSetD, stK_map, fItR1, fLRg, List.getElem?_cons_succ, List.getElem?_cons_zero, List.set_cons_succ, List.set_cons_zero, List.length_cons, List.length_nil, List.map_cons, List.map_nil, Option.map_some, Option.map_none, Nat.zero_add, Nat.reduceAdd, Nat.reduceLT, Nat.reduceEqDiff, and_self, big0, big1, big2, big3, big4, big5, if_true, if_false, ite_true, ite_false, Bool.not_true, Bool.not_false, Bool.true_and, Bool.false_and,hx, hv]
theorem valK_st (ds : List (Key × D)) : valK (ds.map fun p => (p.1, OD.st p.2)) = ds := by
  rw [valK_map, List.map_map]
  exact List.map_id' _
end Lw
set_option Elab.async false
set_option linter.all false
set_option maxRecDepth 100000
set_option maxHeartbeats 400000
namespace Lw
open PySem L2 Qy
abbrev ks1 (L : List (Int × Int)) : List Int := L.map (·.1)
abbrev dO (L : List (Int × Int)) : OD := .oK (stD (dkL L))
theorem rd_dk (L : List (Int × Int)) : OD.rd (dO L) = some (.dK (dkL L)) := by
  show (stK _).map D.dK = _
  rw [stK_map]
  rfl
theorem in_dk (L : List (Int × Int)) (x : Int) : gDIn true (.st (.int x)) (dO L) = some (.st (.bl (!decide (x ∈ ks1 L)))) := by
  unfold gDIn
  rw [rd_dk]
  simp only [keyD, val_dk, Option.isSome_map]
  congr 3
  by_cases h : x ∈ ks1 L
  · rw [look_some.mpr h]; simp [h]
  · have : (look L x).isSome = false := by
      rw [Bool.eq_false_iff]
      exact fun z => h (look_some.mp z)
    rw [this]; simp [h]
theorem get_dk {L : List (Int × Int)} {x d : Int} (h : look L x = some d) : gDGet (dO L) (.st (.int x)) = some (.st (.int d)) := by
  unfold gDGet
  rw [rd_dk]
  simp only [keyD, val_dk, h, Option.map_some]
theorem look_app {L : List (Int × Int)} {x d : Int} (h : look L x = some d) (y : Int × Int) : look (L ++ [y]) x = some d := by
  unfold look at h ⊢
  rw [List.find?_append]
  cases e : L.find? fun z => decide (z.1 = x) with
  | none => rw [e] at h; cases h
  | some z => rw [e] at h; exact h
theorem look_vis {L : List (Int × Int)} {x d e : Int} (h : look L x = some d) (s : Stp) : look (vis e L s) x = some d := by
  unfold vis
  split
  · exact h
  · exact look_app h _
theorem vis_len (d : Int) (L : List (Int × Int)) (s : Stp) : (vis d L s).length ≤ L.length + 1 := by
  unfold vis
  split <;> simp
theorem set_dk {L : List (Int × Int)} {f : Fe} {ρ ρ1 : Rho} {x d : Int} (hL : L.length ≤ 1000) (hx : x ∉ ks1 L) (h0 : ρ[2]? = some (some (dO L))) (hf : f ρ = some (.st (.int x), ρ1)) (h1 : ρ1[2]? = some (some (dO L))) :
    gSetQ 2 f (.st (.int d)) ρ = some (ρ1.set 2 (some (dO (L ++ [(x, d)])))) := by
  have hb : (dkL L).length ≤ big := by simp [big]; omega
  unfold gSetQ gSetI gSetD
  rw [h0]
  simp only [hf, h1, stK_map, keyD, if_pos hb, put_dk hx]
def FaB : Fs := (fIfS (fAnd (fB (fBin gEq (fE (fBin gIx (fP 5) (fE (fC (.int 0))))) (fE (fBin gIx (fP 3) (fP 4))))) (fB (fBin (gDIn true) (fE (fBin gIx (fP 5) (fE (fC (.int 2))))) (fP 2)))) (fSeq (fAsg (fBin gAdd (fE (fBin gDGet (fP 2) (fE (fBin gIx (fP 5) (fE (fC (.int 0))))))) (fE (fC (.int 1)))) (gSetQ 2 (fBin gIx (fP 5) (fE (fC (.int 2)))))) (fX (fAppend 3 (fBin gIx (fP 5) (fE (fC (.int 2))))))) fNext)
theorem ix_s0 (s : Stp) : gIx (.st (stp s)) (.st (.int 0)) = some (.st (.int s.1)) := rfl
theorem ix_s2 (s : Stp) : gIx (.st (stp s)) (.st (.int 2)) = some (.st (.int s.2.2)) := rfl
theorem ix_iO {ks : List Int} {k : Nat} {p : Int} (h : ks[k]? = some p) : gIx (iO ks) (.st (.int (k : Int))) = some (.st (.int p)) := by
  unfold gIx
  rw [rd_ol]
  simp only
  rw [atI_nat (v := .int p) (by simp [iD, h])]
  rfl
theorem faB_ok {L : List (Int × Int)} {x0 x1 : Option OD} {p d : Int} {k : Nat} {s : Stp} (hp : look L p = some d) (hk : (ks1 L)[k]? = some p) (hL : L.length ≤ 1000) :
    FaB [x0, x1, some (dO L), some (iO (ks1 L)), some (.st (.int (k : Int))), some (.st (stp s))] = some (.nx [x0, x1, some (dO (if s.1 = p then vis d L s else L)), some (iO (ks1 (if s.1 = p then vis d L s else L))), some (.st (.int (k : Int))), some (.st (stp s))]) := by
  have e1 := in_dk L s.2.2
  have e2 := get_dk hp
  have e3 := ix_iO hk
  have e4 := eqI s.1 p
  by_cases hs : s.1 = p
  · rw [if_pos hs]
    have e4' : gEq (.st (.int s.1)) (.st (.int p)) = some (.st (.bl true)) := by rw [e4]; simp [hs]
    unfold vis
    by_cases h : s.2.2 ∈ ks1 L
    · rw [if_pos h]
      have e1' : gDIn true (.st (.int s.2.2)) (dO L) = some (.st (.bl false)) := by rw [e1]; simp [h]
      simp only [runM, outsOf, fSeq, fRet, fAsg, gN, fFz, fPeek, fBack, fDrop, fBin, fUn, fC, fCons, fNil, fLend, fCall, fCallK, pick, List.filterMap_cons, List.filterMap_nil, putBack, fIfS, fB, fNot, fAnd, fOr, fAndV, fOrV, fNext, fIf, fX, fLst, fTup, fMov, fPar, gs2, gs3, gT, gsCons, gsNil, fYes, gAdd_i, gLt_i, gSub_i, gDiv_i, gMod_i, gGt_i, gLe_i, gGe_i, gInt_i, gNeg_i, gAbs_i, gMax_i, gMin_i, OD.val, valL, valL_st, fItS, fFor, fLc, wipeR, fPart, fNoPart, fSl, fAppend, fExtend, fPop, fGet2, fD1, fDNew, keyD, gSetQ, gSetI, gSetD, stK_map, fItR1, fLRg, List.getElem?_cons_succ, List.getElem?_cons_zero, List.set_cons_succ, List.set_cons_zero, List.length_cons, List.length_nil, List.map_cons, List.map_nil, Option.map_some, Option.map_none, Nat.zero_add, Nat.reduceAdd, Nat.reduceLT, Nat.reduceEqDiff, and_self, big0, big1, big2, big3, big4, big5, if_true, if_false, ite_true, ite_false, Bool.not_true, Bool.not_false, Bool.true_and, Bool.false_and,FaB, ix_s0, e3, e4', ix_s2, e1']
    · rw [if_neg h]
      have e1' : gDIn true (.st (.int s.2.2)) (dO L) = some (.st (.bl true)) := by rw [e1]; simp [h]
      have e5 := set_dk (L := L) (f := (fBin gIx (fP 5) (fE (fC (.int 2))))) (ρ := [x0, x1, some (dO L), some (iO (ks1 L)), some (.st (.int (k : Int))), some (.st (stp s))]) (ρ1 := [x0, x1, some (dO L), some (iO (ks1 L)), some (.st (.int (k : Int))), some (.st (stp s))]) (d := d + 1) hL h rfl (by simp only [runM, outsOf, fSeq, fRet, fAsg, gN, fFz, fPeek, fBack, fDrop, fBin, fUn, fC, fCons, fNil, fLend, fCall, fCallK, pick, List.filterMap_cons, List.filterMap_nil, putBack, fIfS, fB, fNot, fAnd, fOr, fAndV, fOrV, fNext, fIf, fX, fLst, fTup, fMov, fPar, gs2, gs3, gT, gsCons, gsNil, fYes, gAdd_i, gLt_i, gSub_i, gDiv_i, gMod_i, gGt_i, gLe_i, gGe_i, gInt_i, gNeg_i, gAbs_i, gMax_i, gMin_i, OD.val, valL, valL_st, fItS, fFor, fLc, wipeR, fPart, fNoPart, fSl, fAppend, fExtend, fPop, fGet2, fD1, fDNew, keyD, gSetQ, gSetI, gSetD, stK_map, fItR1, fLRg, List.getElem?_cons_succ, List.getElem?_cons_zero, List.set_cons_succ, List.set_cons_zero, List.length_cons, List.length_nil, List.map_cons, List.map_nil, Option.map_some, Option.map_none, Nat.zero_add, Nat.reduceAdd, Nat.reduceLT, Nat.reduceEqDiff, and_self, big0, big1, big2, big3, big4, big5, if_true, if_false, ite_true, ite_false, Bool.not_true, Bool.not_false, Bool.true_and, Bool.false_and,ix_s2]) rfl
      have hb : ((iD (ks1 L)).map OD.st).length ≤ big := by simp [big]; omega
      have e2' : gDGet (dO L) (.st (.int s.1)) = some (.st (.int d)) := by rw [hs]; exact e2
      simp only [List.set_cons_succ, List.set_cons_zero] at e5
      simp only [FaB, fIfS, fAnd, fB, fSeq, fAsg, fBin, fP, fE, fPeek, fBack, fDrop, fC, List.getElem?_cons_succ, List.getElem?_cons_zero, List.set_cons_succ, List.set_cons_zero, ix_s0, e3, e4', ix_s2, e1', e2', gAdd_i] at e5 ⊢
      rw [e5]
      simp only [runM, outsOf, fSeq, fRet, fAsg, gN, fFz, fPeek, fBack, fDrop, fBin, fUn, fC, fCons, fNil, fLend, fCall, fCallK, pick, List.filterMap_cons, List.filterMap_nil, putBack, fIfS, fB, fNot, fAnd, fOr, fAndV, fOrV, fNext, fIf, fX, fLst, fTup, fMov, fPar, gs2, gs3, gT, gsCons, gsNil, fYes, gAdd_i, gLt_i, gSub_i, gDiv_i, gMod_i, gGt_i, gLe_i, gGe_i, gInt_i, gNeg_i, gAbs_i, gMax_i, gMin_i, OD.val, valL, valL_st, fItS, fFor, fLc, wipeR, fPart, fNoPart, fSl, fAppend, fExtend, fPop, fGet2, fD1, fDNew, keyD, gSetQ, gSetI, gSetD, stK_map, fItR1, fLRg, List.getElem?_cons_succ, List.getElem?_cons_zero, List.set_cons_succ, List.set_cons_zero, List.length_cons, List.length_nil, List.map_cons, List.map_nil, Option.map_some, Option.map_none, Nat.zero_add, Nat.reduceAdd, Nat.reduceLT, Nat.reduceEqDiff, and_self, big0, big1, big2, big3, big4, big5, if_true, if_false, ite_true, ite_false, Bool.not_true, Bool.not_false, Bool.true_and, Bool.false_and,ix_s2, if_pos hb]
      simp
  · rw [if_neg hs]
    have e4' : gEq (.st (.int s.1)) (.st (.int p)) = some (.st (.bl false)) := by rw [e4]; simp [hs]
    simp only [runM, outsOf, fSeq, fRet, fAsg, gN, fFz, fPeek, fBack, fDrop, fBin, fUn, fC, fCons, fNil, fLend, fCall, fCallK, pick, List.filterMap_cons, List.filterMap_nil, putBack, fIfS, fB, fNot, fAnd, fOr, fAndV, fOrV, fNext, fIf, fX, fLst, fTup, fMov, fPar, gs2, gs3, gT, gsCons, gsNil, fYes, gAdd_i, gLt_i, gSub_i, gDiv_i, gMod_i, gGt_i, gLe_i, gGe_i, gInt_i, gNeg_i, gAbs_i, gMax_i, gMin_i, OD.val, valL, valL_st, fItS, fFor, fLc, wipeR, fPart, fNoPart, fSl, fAppend, fExtend, fPop, fGet2, fD1, fDNew, keyD, gSetQ, gSetI, gSetD, stK_map, fItR1, fLRg, List.getElem?_cons_succ, List.getElem?_cons_zero, List.set_cons_succ, List.set_cons_zero, List.length_cons, List.length_nil, List.map_cons, List.map_nil, Option.map_some, Option.map_none, Nat.zero_add, Nat.reduceAdd, Nat.reduceLT, Nat.reduceEqDiff, and_self, big0, big1, big2, big3, big4, big5, if_true, if_false, ite_true, ite_false, Bool.not_true, Bool.not_false, Bool.true_and, Bool.false_and,FaB, ix_s0, e3, e4']
theorem vis_get {L : List (Int × Int)} {k : Nat} {p d : Int} (h : (ks1 L)[k]? = some p) (s : Stp) : (ks1 (vis d L s))[k]? = some p := by
  unfold vis
  split
  · exact h
  · have hk := (List.getElem?_eq_some_iff.mp h).1
    unfold ks1 at *
    rw [List.map_append, List.getElem?_append_left hk]
    exact h
theorem faL_ok {x0 x1 : Option OD} {p d : Int} {k : Nat} : ∀ (T : List Stp) (L : List (Int × Int)) (s5 : Option OD), look L p = some d → (ks1 L)[k]? = some p → L.length + T.length ≤ 1000 →
    ∃ t5, loopF (gN 5) FaB (sD T) [x0, x1, some (dO L), some (iO (ks1 L)), some (.st (.int (k : Int))), s5] = some (.nx [x0, x1, some (dO ((atS T p).foldl (vis d) L)), some (iO (ks1 ((atS T p).foldl (vis d) L))), some (.st (.int (k : Int))), t5])
  | [], L, s5, _, _, _ => ⟨s5, rfl⟩
  | s :: T, L, s5, hp, hk, hl => by
    have hv := vis_len d L s
    simp only [List.length_cons] at hl
    have hL' : (if s.1 = p then vis d L s else L).length ≤ L.length + 1 := by split <;> omega
    obtain ⟨t5, ih⟩ := faL_ok (x0 := x0) (x1 := x1) (k := k) T (if s.1 = p then vis d L s else L) (some (.st (stp s))) (by split; exact look_vis hp s; exact hp) (by split; exact vis_get hk s; exact hk) (by omega)
    refine ⟨t5, ?_⟩
    have ea : (atS (s :: T) p).foldl (vis d) L = (atS T p).foldl (vis d) (if s.1 = p then vis d L s else L) := by
      unfold atS
      rw [List.filter_cons]
      by_cases h : s.1 = p
      · simp [h]
      · simp [h]
    rw [ea]
    have g1 : gN 5 (.st (stp s)) [x0, x1, some (dO L), some (iO (ks1 L)), some (.st (.int (k : Int))), s5] = some [x0, x1, some (dO L), some (iO (ks1 L)), some (.st (.int (k : Int))), some (.st (stp s))] := by simp only [runM, outsOf, fSeq, fRet, fAsg, gN, fFz, fPeek, fBack, fDrop, fBin, fUn, fC, fCons, fNil, fLend, fCall, fCallK, pick, List.filterMap_cons, List.filterMap_nil, putBack, fIfS, fB, fNot, fAnd, fOr, fAndV, fOrV, fNext, fIf, fX, fLst, fTup, fMov, fPar, gs2, gs3, gT, gsCons, gsNil, fYes, gAdd_i, gLt_i, gSub_i, gDiv_i, gMod_i, gGt_i, gLe_i, gGe_i, gInt_i, gNeg_i, gAbs_i, gMax_i, gMin_i, OD.val, valL, valL_st, fItS, fFor, fLc, wipeR, fPart, fNoPart, fSl, fAppend, fExtend, fPop, fGet2, fD1, fDNew, keyD, gSetQ, gSetI, gSetD, stK_map, fItR1, fLRg, List.getElem?_cons_succ, List.getElem?_cons_zero, List.set_cons_succ, List.set_cons_zero, List.length_cons, List.length_nil, List.map_cons, List.map_nil, Option.map_some, Option.map_none, Nat.zero_add, Nat.reduceAdd, Nat.reduceLT, Nat.reduceEqDiff, and_self, big0, big1, big2, big3, big4, big5, if_true, if_false, ite_true, ite_false, Bool.not_true, Bool.not_false, Bool.true_and, Bool.false_and]
    show loopF _ FaB (stp s :: sD T) _ = _
    unfold loopF
    simp only [g1, faB_ok hp hk (show L.length ≤ 1000 by omega)]
    exact ih
theorem len_iO {ks : List Int} : gLen (iO ks) = some (.st (.int (ks.length : Int))) := by
  unfold gLen
  rw [rd_ol]
  simp
theorem atS_len (A : List Stp) (p : Int) : (atS A p).length ≤ A.length := List.length_filter_le _ _
theorem sT_to {n : Nat} {B : List Tri} (h : LnkOk n B) : ∀ t ∈ sT B, 0 ≤ t.2.2 ∧ t.2.2 < (n : Int) := fun t ht => (sT_rg h ht).2
/-- one more place is looked at -/
theorem bfs_step {n : Nat} {B : List Tri} (h : LnkOk n B) {s : Int} (hs : 0 ≤ s ∧ s < (n : Int)) {k : Nat} (hk : k < (bfs (sT B) s k).length) :
    ∃ p d, (ks1 (bfs (sT B) s k))[k]? = some p ∧ look (bfs (sT B) s k) p = some d ∧ bfs (sT B) s (k + 1) = (atS (sT B) p).foldl (vis d) (bfs (sT B) s k) ∧ k + 1 ≤ (bfs (sT B) s (k + 1)).length ∧ (bfs (sT B) s k).length ≤ 25 := by
  obtain ⟨h1, _⟩ := bfs_ok (sT_to h) hs k
  have e : (bfs (sT B) s k)[k]? = some ((bfs (sT B) s k)[k]) := List.getElem?_eq_getElem hk
  have hm := List.getElem_mem hk
  have hn := h1.len
  have := h.n0
  have eg : bfs (sT B) s (k + 1) = (atS (sT B) (bfs (sT B) s k)[k].1).foldl (vis (bfs (sT B) s k)[k].2) (bfs (sT B) s k) := by
    show grow _ _ _ = _
    unfold grow
    rw [e]
  refine ⟨(bfs (sT B) s k)[k].1, (bfs (sT B) s k)[k].2, by simp [ks1, e], (look_mem h1.nd).mpr hm, eg, ?_, by omega⟩
  obtain ⟨_, h5, _⟩ := visL_ok (p := (bfs (sT B) s k)[k].1) (d := (bfs (sT B) s k)[k].2) (sT_to h) (atS (sT B) (bfs (sT B) s k)[k].1) h1 hm (fun t ht => atS_mem.mp ht)
  rw [eg]
  have := h5.length_le
  omega
def FaC : Ft := (fAnd (fB (fBin gLt (fP 4) (fE (fUn gLen (fP 3))))) (fB (fBin gLt (fP 4) (fE (fC (.int 30))))))
def FaW : Fs := (fSeq (fFor (fItS (fFz (fP 0))) (gN 5) FaB) (fAsg (fBin gAdd (fP 4) (fE (fC (.int 1)))) (gN 4)))
theorem far_ok {n : Nat} {B : List Tri} (h : LnkOk n B) {s : Int} (hs : 0 ≤ s ∧ s < (n : Int)) : m_law_far [.st (.lst (sD (sT B))), .st (.int s)] = some (dO (farL (sT B) s), [none, none]) := by
  let st : Nat × Option OD → Rho := fun x => [some (.st (.lst (sD (sT B)))), some (.st (.int s)), some (dO (bfs (sT B) s x.1)), some (iO (ks1 (bfs (sT B) s x.1))), some (.st (.int (x.1 : Int))), x.2]
  have hn := h.n0
  have hc : ∀ x, FaC (st x) = some (decide ((x.1 : Int) < ((bfs (sT B) s x.1).length : Int)), st x) := fun x => by
    have e := len_iO (ks := ks1 (bfs (sT B) s x.1))
    rw [List.length_map] at e
    have hxl := (bfs_ok (sT_to h) hs x.1).1.len
    simp only [st]
    by_cases hx : (x.1 : Int) < ((bfs (sT B) s x.1).length : Int)
    · have h30 : decide ((x.1 : Int) < 30) = true := by simp; omega
      have hd : decide ((x.1 : Int) < ((bfs (sT B) s x.1).length : Int)) = true := by simpa using hx
      simp only [runM, outsOf, fSeq, fRet, fAsg, gN, fFz, fPeek, fBack, fDrop, fBin, fUn, fC, fCons, fNil, fLend, fCall, fCallK, pick, List.filterMap_cons, List.filterMap_nil, putBack, fIfS, fB, fNot, fAnd, fOr, fAndV, fOrV, fNext, fIf, fX, fLst, fTup, fMov, fPar, gs2, gs3, gT, gsCons, gsNil, fYes, gAdd_i, gLt_i, gSub_i, gDiv_i, gMod_i, gGt_i, gLe_i, gGe_i, gInt_i, gNeg_i, gAbs_i, gMax_i, gMin_i, OD.val, valL, valL_st, fItS, fFor, fLc, wipeR, fPart, fNoPart, fSl, fAppend, fExtend, fPop, fGet2, fD1, fDNew, keyD, gSetQ, gSetI, gSetD, stK_map, fItR1, fLRg, List.getElem?_cons_succ, List.getElem?_cons_zero, List.set_cons_succ, List.set_cons_zero, List.length_cons, List.length_nil, List.map_cons, List.map_nil, Option.map_some, Option.map_none, Nat.zero_add, Nat.reduceAdd, Nat.reduceLT, Nat.reduceEqDiff, and_self, big0, big1, big2, big3, big4, big5, if_true, if_false, ite_true, ite_false, Bool.not_true, Bool.not_false, Bool.true_and, Bool.false_and,FaC, e, hd, h30]
    · have hd : decide ((x.1 : Int) < ((bfs (sT B) s x.1).length : Int)) = false := by simpa using hx
      simp only [runM, outsOf, fSeq, fRet, fAsg, gN, fFz, fPeek, fBack, fDrop, fBin, fUn, fC, fCons, fNil, fLend, fCall, fCallK, pick, List.filterMap_cons, List.filterMap_nil, putBack, fIfS, fB, fNot, fAnd, fOr, fAndV, fOrV, fNext, fIf, fX, fLst, fTup, fMov, fPar, gs2, gs3, gT, gsCons, gsNil, fYes, gAdd_i, gLt_i, gSub_i, gDiv_i, gMod_i, gGt_i, gLe_i, gGe_i, gInt_i, gNeg_i, gAbs_i, gMax_i, gMin_i, OD.val, valL, valL_st, fItS, fFor, fLc, wipeR, fPart, fNoPart, fSl, fAppend, fExtend, fPop, fGet2, fD1, fDNew, keyD, gSetQ, gSetI, gSetD, stK_map, fItR1, fLRg, List.getElem?_cons_succ, List.getElem?_cons_zero, List.set_cons_succ, List.set_cons_zero, List.length_cons, List.length_nil, List.map_cons, List.map_nil, Option.map_some, Option.map_none, Nat.zero_add, Nat.reduceAdd, Nat.reduceLT, Nat.reduceEqDiff, and_self, big0, big1, big2, big3, big4, big5, if_true, if_false, ite_true, ite_false, Bool.not_true, Bool.not_false, Bool.true_and, Bool.false_and,FaC, e, hd]
  obtain ⟨y, ρ', e1, hy, hcy⟩ := loopW_st (c := FaC) (body := FaW) st (fun x => x.1 ≤ (bfs (sT B) s x.1).length) (fun x => 40 - x.1) (by
    rintro ⟨k, s5⟩ hk
    simp only at hk
    by_cases hlt : k < (bfs (sT B) s k).length
    · right
      obtain ⟨p, d, h1, h2, h3, h4, h5⟩ := bfs_step h hs hlt
      have hA : (sT B).length ≤ 500 := by rw [sT_len]; have := h.len; omega
      obtain ⟨t5, e2⟩ := faL_ok (x0 := some (.st (.lst (sD (sT B))))) (x1 := some (.st (.int s))) (k := k) (sT B) (bfs (sT B) s k) s5 h2 h1 (by omega)
      rw [← h3] at e2
      refine ⟨st (k, s5), (k + 1, t5), by rw [hc]; simp [hlt], ?_, h4, by simp only; omega⟩
      simp only [st]
      simp only [runM, outsOf, fSeq, fRet, fAsg, gN, fFz, fPeek, fBack, fDrop, fBin, fUn, fC, fCons, fNil, fLend, fCall, fCallK, pick, List.filterMap_cons, List.filterMap_nil, putBack, fIfS, fB, fNot, fAnd, fOr, fAndV, fOrV, fNext, fIf, fX, fLst, fTup, fMov, fPar, gs2, gs3, gT, gsCons, gsNil, fYes, gAdd_i, gLt_i, gSub_i, gDiv_i, gMod_i, gGt_i, gLe_i, gGe_i, gInt_i, gNeg_i, gAbs_i, gMax_i, gMin_i, OD.val, valL, valL_st, fItS, fFor, fLc, wipeR, fPart, fNoPart, fSl, fAppend, fExtend, fPop, fGet2, fD1, fDNew, keyD, gSetQ, gSetI, gSetD, stK_map, fItR1, fLRg, List.getElem?_cons_succ, List.getElem?_cons_zero, List.set_cons_succ, List.set_cons_zero, List.length_cons, List.length_nil, List.map_cons, List.map_nil, Option.map_some, Option.map_none, Nat.zero_add, Nat.reduceAdd, Nat.reduceLT, Nat.reduceEqDiff, and_self, big0, big1, big2, big3, big4, big5, if_true, if_false, ite_true, ite_false, Bool.not_true, Bool.not_false, Bool.true_and, Bool.false_and,FaW, e2]
      simp
    · left
      exact ⟨_, by rw [hc]; simp [hlt]; rfl⟩) 1000000 (0, none) (by simp) (by simp)
  rw [hc] at hcy
  have hlt : ¬ y.1 < (bfs (sT B) s y.1).length := by
    intro z
    simp [z] at hcy
  have hρ : ρ' = st y := by
    have := (Option.some.inj hcy)
    exact (congrArg Prod.snd this).symm
  have hyl := (bfs_ok (sT_to h) hs y.1).1.len
  have efar : bfs (sT B) s y.1 = farL (sT B) s := bfs_end (by omega) (by omega)
  have e0 : rho0 N_law_far [.st (.lst (sD (sT B))), .st (.int s)] = [some (.st (.lst (sD (sT B)))), some (.st (.int s)), none, none, none, none] := rfl
  have eF : F_law_far = (fSeq (fPar (fCons (fD1 (fFz (fP 1)) (fC (.int 0))) (fCons (fLst (fCons (fFz (fP 1)) fNil)) (fCons (fC (.int 0)) fNil))) (gs3 2 3 4)) (fSeq (fun ρ => loopW FaC FaW 1000000 ρ) (fRet (fMov 2)))) := rfl
  have e1' : loopW FaC FaW 1000000 [some (.st (.lst (sD (sT B)))), some (.st (.int s)), some (.oK [(.inl s, .st (.int 0))]), some (.ol [.st (.int s)]), some (.st (.int 0)), none] = some (.nx ρ') := e1
  rw [m_law_far, runM, eF]
  simp only [runM, outsOf, fSeq, fRet, fAsg, gN, fFz, fPeek, fBack, fDrop, fBin, fUn, fC, fCons, fNil, fLend, fCall, fCallK, pick, List.filterMap_cons, List.filterMap_nil, putBack, fIfS, fB, fNot, fAnd, fOr, fAndV, fOrV, fNext, fIf, fX, fLst, fTup, fMov, fPar, gs2, gs3, gT, gsCons, gsNil, fYes, gAdd_i, gLt_i, gSub_i, gDiv_i, gMod_i, gGt_i, gLe_i, gGe_i, gInt_i, gNeg_i, gAbs_i, gMax_i, gMin_i, OD.val, valL, valL_st, fItS, fFor, fLc, wipeR, fPart, fNoPart, fSl, fAppend, fExtend, fPop, fGet2, fD1, fDNew, keyD, gSetQ, gSetI, gSetD, stK_map, fItR1, fLRg, List.getElem?_cons_succ, List.getElem?_cons_zero, List.set_cons_succ, List.set_cons_zero, List.length_cons, List.length_nil, List.map_cons, List.map_nil, Option.map_some, Option.map_none, Nat.zero_add, Nat.reduceAdd, Nat.reduceLT, Nat.reduceEqDiff, and_self, big0, big1, big2, big3, big4, big5, if_true, if_false, ite_true, ite_false, Bool.not_true, Bool.not_false, Bool.true_and, Bool.false_and,e0, e1']
  rw [hρ]
  simp only [st, efar]
  simp only [runM, outsOf, fSeq, fRet, fAsg, gN, fFz, fPeek, fBack, fDrop, fBin, fUn, fC, fCons, fNil, fLend, fCall, fCallK, pick, List.filterMap_cons, List.filterMap_nil, putBack, fIfS, fB, fNot, fAnd, fOr, fAndV, fOrV, fNext, fIf, fX, fLst, fTup, fMov, fPar, gs2, gs3, gT, gsCons, gsNil, fYes, gAdd_i, gLt_i, gSub_i, gDiv_i, gMod_i, gGt_i, gLe_i, gGe_i, gInt_i, gNeg_i, gAbs_i, gMax_i, gMin_i, OD.val, valL, valL_st, fItS, fFor, fLc, wipeR, fPart, fNoPart, fSl, fAppend, fExtend, fPop, fGet2, fD1, fDNew, keyD, gSetQ, gSetI, gSetD, stK_map, fItR1, fLRg, List.getElem?_cons_succ, List.getElem?_cons_zero, List.set_cons_succ, List.set_cons_zero, List.length_cons, List.length_nil, List.map_cons, List.map_nil, Option.map_some, Option.map_none, Nat.zero_add, Nat.reduceAdd, Nat.reduceLT, Nat.reduceEqDiff, and_self, big0, big1, big2, big3, big4, big5, if_true, if_false, ite_true, ite_false, Bool.not_true, Bool.not_false, Bool.true_and, Bool.false_and]
end Lw
set_option Elab.async false
set_option linter.all false
set_option maxRecDepth 100000
set_option maxHeartbeats 400000
namespace Lw
open PySem L2 Qy
theorem eqv_none_int (i : Int) : PyData.eqv .none (.int i) = false := rfl
theorem eq_get (m : Option Int) (e : Int) : gEq (.st ((m.map D.int).getD .non)) (.st (.int e)) = some (.st (.bl (decide (m = some e)))) := by
  cases m with
  | none => rfl
  | some i =>
    show gEq (.st (.int i)) (.st (.int e)) = _
    rw [eqI]
    simp
theorem get1_dk {L : List (Int × Int)} {oa : Fo} {fk : Fe} {ρ ρ1 ρ2 : Rho} {x : Int} (h1 : oa.1 ρ = some (dO L, ρ1)) (h2 : fk ρ1 = some (.st (.int x), ρ2)) : fGet1 oa fk ρ = some (.st (((look L x).map D.int).getD .non), oa.2 (dO L) ρ2) := by
  unfold fGet1
  simp only [h1, h2, rd_dk, keyD, val_dk]
theorem ix_head (x : D) (xs : List D) : gIx (.ol ((x :: xs).map .st)) (.st (.int 0)) = some (.st x) := by
  unfold gIx
  rw [rd_ol]
  simp only
  have : atI (x :: xs) (0 : Int) = some x := atI_nat (j := 0) (v := x) rfl
  rw [this]
  rfl
theorem ix_last (x : D) (xs : List D) : gIx (.ol ((xs ++ [x]).map .st)) (.st (.int (-1))) = some (.st x) := by
  unfold gIx
  rw [rd_ol]
  simp only
  have : atI (xs ++ [x]) (-1 : Int) = some x := by
    unfold atI ixN
    rw [if_neg (by omega), if_pos (by simp; omega)]
    have e : (-1 + ((xs ++ [x]).length : Int)).toNat = xs.length := by simp; omega
    simp only [e]
    simp
  rw [this]
  rfl
theorem nodup_sub {α : Type} [DecidableEq α] : ∀ {a b : List α}, a.Nodup → (∀ x ∈ a, x ∈ b) → a.length ≤ b.length
  | [], _, _, _ => Nat.zero_le _
  | x :: r, b, nd, h => by
    obtain ⟨h1, h2⟩ := List.nodup_cons.mp nd
    have hx := h x List.mem_cons_self
    have := nodup_sub (b := b.erase x) h2 fun y hy => (List.mem_erase_of_ne (fun (z : y = x) => h1 (by rw [← z]; exact hy))).mpr (h y (List.mem_cons_of_mem _ hy))
    rw [List.length_erase_of_mem hx] at this
    have := List.length_pos_of_mem hx
    simp only [List.length_cons]
    omega
theorem dist_le {A : List Stp} {s : Int} {n : Nat} {L : List (Int × Int)} (h : FarI A s n L) : ∀ {d : Nat} {p : Int}, (p, (d : Int)) ∈ L → d < L.length := by
  -- d + 1 places are come to
  have key : ∀ (d : Nat) (p : Int), (p, (d : Int)) ∈ L → ∀ e : Nat, e ≤ d → ∃ p', (p', (e : Int)) ∈ L := by
    intro d
    induction d with
    | zero => intro p hp e he; exact ⟨p, by rw [show e = 0 by omega]; exact hp⟩
    | succ d ih =>
      intro p hp e he
      by_cases hed : e = d + 1
      · subst hed; exact ⟨p, hp⟩
      · rcases h.bk _ hp with z | ⟨_, y, hy, h1, _⟩
        · have := congrArg Prod.snd z
          simp at this
          omega
        · simp only at h1
          have : y = (y.1, (d : Int)) := Prod.ext rfl (by simp only; omega)
          rw [this] at hy
          exact ih _ hy e (by omega)
  intro d p hp
  have h2 : ∀ e ∈ (List.range (d + 1)).map (fun (e : Nat) => (e : Int)), e ∈ L.map (·.2) := by
    intro e he
    obtain ⟨m, hm, rfl⟩ := List.mem_map.mp he
    obtain ⟨p', hp'⟩ := key d p hp m (by have := List.mem_range.mp hm; omega)
    exact List.mem_map.mpr ⟨_, hp', rfl⟩
  have nd : ((List.range (d + 1)).map (fun (e : Nat) => (e : Int))).Nodup := (rng_lt (d + 1)).imp fun h => by omega
  have := nodup_sub nd h2
  simp at this
  omega
theorem sT_len' {n : Nat} {B : List Tri} (h : LnkOk n B) : (sT B).length ≤ 500 := by rw [sT_len]; have := h.len; omega
theorem sT_far {n : Nat} {B : List Tri} (h : LnkOk n B) {s : Int} (hs : 0 ≤ s ∧ s < (n : Int)) : FarI (sT B) s n (farL (sT B) s) := farL_ok (by have := h.n0; omega) (sT_to h) hs
theorem look_nat {A : List Stp} {s : Int} {n : Nat} {L : List (Int × Int)} (h : FarI A s n L) {p d : Int} (hd : look L p = some d) : ∃ m : Nat, d = (m : Int) ∧ (p, (m : Int)) ∈ L ∧ m < n := by
  have hm := (look_mem h.nd).mp hd
  have h0 := h.nn _ hm
  simp only at h0
  obtain ⟨m, rfl⟩ := Int.eq_ofNat_of_zero_le h0
  have := dist_le h hm
  have := h.toBfI.len
  exact ⟨m, rfl, hm, by omega⟩
abbrev pS (s : Stp) : PyData := .tuple [.int s.1, .str s.2.1, .int s.2.2]
theorem py_sD : ∀ A : List Stp, pyL (sD A) = some (A.map pS)
  | [] => rfl
  | s :: r => by
    show (match (stp s).py, pyL (sD r) with | some p, some ps => some (p :: ps) | _, _ => none) = _
    rw [py_sD r]
    rfl
theorem py_sL (A : List Stp) : (D.lst (sD A)).py = some (.list (A.map pS)) := by
  show (pyL _).map PyData.list = _
  rw [py_sD]
  rfl
theorem py_sO (A : List Stp) : OD.py (.ol ((sD A).map .st)) = some (.list (A.map pS)) := by
  unfold OD.py
  rw [val_ol]
  exact py_sL A
/-- steps of a question -/
structure SOk (A : List Stp) : Prop where
  rg : ∀ t ∈ A, (0 ≤ t.1 ∧ t.1 < 25) ∧ (0 ≤ t.2.2 ∧ t.2.2 < 25)
  sg : ∀ t ∈ A, Sok t.2.1 ∧ t.2.1.length ≤ 12
theorem SOk.sub {A A' : List Stp} (h : SOk A) (hs : ∀ t ∈ A', t ∈ A) : SOk A' := ⟨fun t ht => h.rg t (hs t ht), fun t ht => h.sg t (hs t ht)⟩
theorem sT_sok {q : List Nat} {ws : List (List Nat)} (hq : QOk q) (hw : WOk ws) : SOk (sT (bT q ws)) := by
  have h := bT_ok (q := q) hw.ne hq.len hw.num
  refine ⟨fun t ht => ?_, fun t ht => ?_⟩
  · have := sT_rg h ht
    have := h.n0
    omega
  · obtain ⟨u, hu, e⟩ := sT_mem.mp ht
    obtain ⟨w, hw', p, hp, rfl⟩ := bT_mem.mp hu
    have hx : t.2.1 = tx w := by rcases e with e | e <;> rw [e]
    rw [hx]
    refine ⟨fun c hc => ?_, by rw [tx_len]; exact hw.len w hw'⟩
    have := hw.low w hw' c (by simpa using hc)
    omega
/-- a thing that is shown, and shown again -/
structure Shw (o : OD) (z : Str) : Prop where
  e : gRepr o = some (.st (.str z))
  sk : Sok z
theorem shw_of {o : OD} {P : PyData} {w k : Nat} (hp : o.py = some P) (h : Rep w k P) (hw : 15 * w + 13 ≤ 1000000) (hk : k ≤ 64) : Shw o P.shown := ⟨repr_rep hp h hw hk, h.sk⟩
theorem strOk_sok {z : Str} (h : Sok z) : PyData.strOk z = true := by
  rw [← tx_self z]
  exact strOk_tx fun c hc => h c hc
theorem lay_s : ∀ {A : List Stp}, (∀ t ∈ A, PyData.strOk t.2.1 = true) → PyData.canLayAll0 (A.map pS) = true
  | [], _ => rfl
  | t :: r, h => by
    show (PyData.canLay0 (pS t) && PyData.canLayAll0 (r.map pS)) = true
    rw [lay_s fun x hx => h x (List.mem_cons_of_mem _ hx), Bool.and_true]
    show (true && (PyData.strOk t.2.1 && (true && true))) = true
    rw [h t List.mem_cons_self]
    rfl
theorem depth_s : ∀ A : List Stp, PyData.depthAll (A.map pS) ≤ 1
  | [] => Nat.zero_le _
  | t :: r => by
    show max (PyData.depth (pS t)) (PyData.depthAll (r.map pS)) ≤ 1
    have h1 := depth_s r
    have h2 : PyData.depth (pS t) = 1 := rfl
    omega
theorem shaped_sL {A : List Stp} (h : ∀ t ∈ A, PyData.strOk t.2.1 = true) : SeqAt.shaped (.list (A.map pS)) = true := by
  unfold SeqAt.shaped
  rw [show PyData.canLay0 (.list (A.map pS)) = true from lay_s h]
  show (true && decide (PyData.depthAll (A.map pS) + 1 ≤ 64)) = true
  have := depth_s A
  simp
  omega
theorem shaped_s1 {t : Stp} (h : PyData.strOk t.2.1 = true) : SeqAt.shaped (pS t) = true := by
  unfold SeqAt.shaped
  rw [show PyData.canLay0 (pS t) = (true && (PyData.strOk t.2.1 && (true && true))) from rfl, h]
  rfl
theorem eqv_st (t u : Stp) : PyData.eqv (pS t) (pS u) = decide (t = u) := by
  show (t.1 == u.1 && (t.2.1 == u.2.1 && (t.2.2 == u.2.2 && true))) = _
  by_cases h : t = u
  · subst h
    simp
  · rw [decide_eq_false h]
    apply Bool.eq_false_iff.mpr
    intro z
    simp only [Bool.and_eq_true, beq_iff_eq, and_true] at z
    exact h (Prod.ext z.1 (Prod.ext z.2.1 z.2.2))
theorem any_eqv (t : Stp) : ∀ A : List Stp, ((A.map pS).any fun z => PyData.eqv z (pS t)) = decide (t ∈ A)
  | [] => rfl
  | a :: r => by
    rw [List.map_cons, List.any_cons, any_eqv t r, eqv_st]
    by_cases h : a = t
    · subst h; simp
    · have : t ≠ a := fun z => h z.symm
      simp [h, this]
theorem in_s {t : Stp} {A : List Stp} {o : OD} (ho : o.py = some (.list (A.map pS))) (hA : ∀ t ∈ A, PyData.strOk t.2.1 = true) (ht : PyData.strOk t.2.1 = true) : gInQ (.st (stp t)) o = some (.st (.bl (decide (t ∈ A)))) := by
  have e0 : gInS (.st (stp t)) o = none := by
    unfold gInS gSS
    rfl
  have e1 : gInF false (.st (stp t)) o = none := by
    unfold gInF
    simp [OD.rd, scOf]
  unfold gInQ gOr2
  rw [e0]
  simp only
  rw [e1]
  simp only
  unfold gIn
  rw [ho, show OD.py (.st (stp t)) = some (pS t) from rfl]
  simp only
  rw [if_pos ⟨shaped_s1 ht, shaped_sL hA⟩]
  rw [any_eqv]
theorem fBin_eq {g : OD → OD → Option OD} {a b : Fo} {ρ ρ1 ρ2 : Rho} {oa ob oz : OD} (h1 : a.1 ρ = some (oa, ρ1)) (h2 : b.1 ρ1 = some (ob, ρ2)) (h3 : g oa ob = some oz) : fBin g a b ρ = some (oz, a.2 oa (b.2 ob ρ2)) := by
  simp only [fBin, h1, h2, h3]
theorem is_count_ok {i : Int} (h0 : 0 ≤ i) : m_is_count [.st (.int i)] = some (.st (.bl true), [none]) := by
  have e1 := is_int_ok i
  simp [runM, rho0, outsOf, fSeq, fRet, fAsg, gN, fFz, fPeek, fBack, fDrop, fBin, fUn, fC, fCons, fNil, fLend, fCall, putBack, fIfS, fB, fNot, fAnd, fOr, fAndV, fOrV, fNext, fIf, fX, fLst, fTup, fMov, fPar, gs2, gs3, gT, gsCons, gsNil, gAdd_i, gLt_i, gSub_i, gMul_i, gDiv_i, gMod_i, gGt_i, gLe_i, gGe_i, gInt_i, gNeg_i, gAbs_i, gMax_i, gMin_i, gPow_i, gSetI, gDivmod, gIx, OD.rd, OD.val, stAll, gLen, fItS, fItR1, fFor, fLc, wipeR, fPart, fNoPart, fSl, -List.map_map,m_is_count, F_is_count, e1, h0]
end Lw
set_option Elab.async false
set_option linter.all false
set_option maxRecDepth 100000
set_option maxHeartbeats 400000
namespace Lw
open PySem L2 Qy
/-- a place, or near one; a word, or near one -/
abbrev Pl (i : Int) : Prop := 0 ≤ i ∧ i < 40
abbrev Wd (w : Str) : Prop := LowS w ∧ w.length ≤ 13
/-- what stands in the lists that are asked -/
inductive Itm : D → Prop
  | stp {i j : Int} {w : Str} : Pl i → Wd w → Pl j → Itm (.tup [.int i, .str w, .int j])
  | bl0 {b : Bool} {j : Int} {w : Str} : Wd w → Pl j → Itm (.tup [.bl b, .str w, .int j])
  | bl2 {i : Int} {w : Str} : Pl i → Wd w → Itm (.tup [.int i, .str w, .bl true])
  | non2 {i : Int} {w : Str} : Pl i → Wd w → Itm (.tup [.int i, .str w, .non])
  | str2 {i j : Int} {w : Str} : Pl i → Wd w → Pl j → Itm (.tup [.int i, .str w, .str (toString j)])
  | lst1 {i j : Int} {w : Str} : Pl i → Wd w → Pl j → Itm (.tup [.int i, .lst [.str w], .int j])
  | two {i : Int} {w : Str} : Pl i → Wd w → Itm (.tup [.int i, .str w])
  | four {i j : Int} {w : Str} : Pl i → Wd w → Pl j → Itm (.tup [.int i, .str w, .int j, .non])
  | nil : Itm (.tup [])
  | non : Itm .non
  | int0 : Itm (.int 0)
  | str {w : Str} : Wd w → Itm (.str w)
  | lst3 {i j : Int} {w : Str} : Pl i → Wd w → Pl j → Itm (.lst [.int i, .str w, .int j])
  | lst0 : Itm (.lst [])
theorem Wd.sok {w : Str} (h : Wd w) : Sok w := fun c hc => by have := h.1 c hc; omega
theorem rep_pl {i : Int} (h : Pl i) : Rep 41 0 (.int i) := rep_int (by omega)
theorem rep_wd {w : Str} (h : Wd w) : Rep 41 0 (.str w) := (rep_str h.sok h.2).le (by omega) (Nat.le_refl _)
theorem toStr_len : ∀ i < 40, (Str.ofString (toString ((i : Nat) : Int))).length ≤ 13 := by decide +kernel
theorem rep_ts {j : Int} (h : Pl j) : Rep 41 0 (.str (toString j)) := by
  obtain ⟨n, rfl⟩ := Int.eq_ofNat_of_zero_le h.1
  exact (rep_str (sok_of _) (toStr_len n (by omega))).le (by omega) (Nat.le_refl _)
/-- as data -/
theorem Itm.py {x : D} (h : Itm x) : ∃ P, x.py = some P ∧ Rep 200 2 P := by
  cases h with
  | stp a b c =>
    refine ⟨_, rfl, (rep_tuple (w := 41) (k := 0) (n := 3) (fun y hy => ?_) (by simp)).le (by omega) (by omega)⟩
    simp only [List.mem_cons, List.not_mem_nil, or_false] at hy
    rcases hy with rfl | rfl | rfl
    · exact rep_pl a
    · exact rep_wd b
    · exact rep_pl c
  | bl0 b c =>
    refine ⟨_, rfl, (rep_tuple (w := 41) (k := 0) (n := 3) (fun y hy => ?_) (by simp)).le (by omega) (by omega)⟩
    simp only [List.mem_cons, List.not_mem_nil, or_false] at hy
    rcases hy with rfl | rfl | rfl
    · exact (rep_bool _).le (by omega) (Nat.le_refl _)
    · exact rep_wd b
    · exact rep_pl c
  | bl2 a b =>
    refine ⟨_, rfl, (rep_tuple (w := 41) (k := 0) (n := 3) (fun y hy => ?_) (by simp)).le (by omega) (by omega)⟩
    simp only [List.mem_cons, List.not_mem_nil, or_false] at hy
    rcases hy with rfl | rfl | rfl
    · exact rep_pl a
    · exact rep_wd b
    · exact (rep_bool _).le (by omega) (Nat.le_refl _)
  | non2 a b =>
    refine ⟨_, rfl, (rep_tuple (w := 41) (k := 0) (n := 3) (fun y hy => ?_) (by simp)).le (by omega) (by omega)⟩
    simp only [List.mem_cons, List.not_mem_nil, or_false] at hy
    rcases hy with rfl | rfl | rfl
    · exact rep_pl a
    · exact rep_wd b
    · exact rep_none.le (by omega) (Nat.le_refl _)
  | str2 a b c =>
    refine ⟨_, rfl, (rep_tuple (w := 41) (k := 0) (n := 3) (fun y hy => ?_) (by simp)).le (by omega) (by omega)⟩
    simp only [List.mem_cons, List.not_mem_nil, or_false] at hy
    rcases hy with rfl | rfl | rfl
    · exact rep_pl a
    · exact rep_wd b
    · exact rep_ts c
  | lst1 a b c =>
    refine ⟨_, rfl, (rep_tuple (w := 41) (k := 1) (n := 3) (fun y hy => ?_) (by simp)).le (by omega) (by omega)⟩
    simp only [List.mem_cons, List.not_mem_nil, or_false] at hy
    rcases hy with rfl | rfl | rfl
    · exact (rep_pl a).le (Nat.le_refl _) (by omega)
    · refine (rep_list (w := 13) (k := 0) (n := 1) (fun y hy => ?_) (by simp)).le (by omega) (Nat.le_refl _)
      simp only [List.mem_cons, List.not_mem_nil, or_false] at hy
      subst hy
      exact rep_str b.sok b.2
    · exact (rep_pl c).le (Nat.le_refl _) (by omega)
  | two a b =>
    refine ⟨_, rfl, (rep_tuple (w := 41) (k := 0) (n := 2) (fun y hy => ?_) (by simp)).le (by omega) (by omega)⟩
    simp only [List.mem_cons, List.not_mem_nil, or_false] at hy
    rcases hy with rfl | rfl
    · exact rep_pl a
    · exact rep_wd b
  | four a b c =>
    refine ⟨_, rfl, (rep_tuple (w := 41) (k := 0) (n := 4) (fun y hy => ?_) (by simp)).le (by omega) (by omega)⟩
    simp only [List.mem_cons, List.not_mem_nil, or_false] at hy
    rcases hy with rfl | rfl | rfl | rfl
    · exact rep_pl a
    · exact rep_wd b
    · exact rep_pl c
    · exact rep_none.le (by omega) (Nat.le_refl _)
  | nil => exact ⟨_, rfl, (rep_tuple (w := 0) (k := 0) (n := 0) (fun y hy => by simp at hy) (by simp)).le (by omega) (by omega)⟩
  | non => exact ⟨_, rfl, rep_none.le (by omega) (by omega)⟩
  | int0 => exact ⟨_, rfl, (rep_int (i := 0) (by decide)).le (by omega) (by omega)⟩
  | str b => exact ⟨_, rfl, (rep_wd b).le (by omega) (by omega)⟩
  | lst3 a b c =>
    refine ⟨_, rfl, (rep_list (w := 41) (k := 0) (n := 3) (fun y hy => ?_) (by simp)).le (by omega) (by omega)⟩
    simp only [List.mem_cons, List.not_mem_nil, or_false] at hy
    rcases hy with rfl | rfl | rfl
    · exact rep_pl a
    · exact rep_wd b
    · exact rep_pl c
  | lst0 => exact ⟨_, rfl, (rep_list (w := 0) (k := 0) (n := 0) (fun y hy => by simp at hy) (by simp)).le (by omega) (by omega)⟩
/-- it is one of the steps -/
def okI (A : List Stp) : D → Bool
  | .tup [.int a, .str w, .int b] => decide ((a, w, b) ∈ A)
  | _ => false
/-- where one comes to by it from a place -/
def jd (A : List Stp) (h : Int) : D → Option Int
  | .tup [.int a, .str w, .int b] => if (a, w, b) ∈ A ∧ a = h then some b else none
  | _ => none
def jdL (A : List Stp) : List D → Int → Option Int
  | [], h => some h
  | x :: r, h => (jd A h x).bind (jdL A r)
/-! ### the program's look at one -/
def cnt : D → Bool
  | .int i => decide (0 ≤ i)
  | _ => false
def plain1 : D → Bool
  | .non => true
  | .bl _ => true
  | .int _ => true
  | .str _ => true
  | _ => false
theorem is_countI {d : D} (h : plain1 d = true) : m_is_count [.st d] = some (.st (.bl (cnt d)), [none]) := by
  have k1 : kitB "NoneType" "int" = some false := by decide +kernel
  have k2 : kitB "bool" "int" = some true := by decide +kernel
  have k3 : kitB "bool" "bool" = some true := by decide +kernel
  have k4 : kitB "str" "int" = some false := by decide +kernel
  cases d with
  | non =>
    have e : m_is_integer [.st .non] = some (.st (.bl false), [none]) := by
      have h1 : gIsi (.st .non) (.st (.raw (.ty "int"))) = some (.st (.bl false)) := by simp [gIsi, OD.rd, tyN, k1]
      simp [runM, rho0, outsOf, fSeq, fRet, fAsg, gN, fFz, fPeek, fBack, fDrop, fBin, fUn, fC, fCons, fNil, fLend, fCall, putBack, fIfS, fB, fNot, fAnd, fOr, fAndV, fOrV, fNext, fIf, fX, fLst, fTup, fMov, fPar, gs2, gs3, gT, gsCons, gsNil, gAdd_i, gLt_i, gSub_i, gMul_i, gDiv_i, gMod_i, gGt_i, gLe_i, gGe_i, gInt_i, gNeg_i, gAbs_i, gMax_i, gMin_i, gPow_i, gSetI, gDivmod, gIx, OD.rd, OD.val, stAll, gLen, fItS, fItR1, fFor, fLc, wipeR, fPart, fNoPart, fSl, -List.map_map,m_is_integer, F_is_integer, h1]
    simp [runM, rho0, outsOf, fSeq, fRet, fAsg, gN, fFz, fPeek, fBack, fDrop, fBin, fUn, fC, fCons, fNil, fLend, fCall, putBack, fIfS, fB, fNot, fAnd, fOr, fAndV, fOrV, fNext, fIf, fX, fLst, fTup, fMov, fPar, gs2, gs3, gT, gsCons, gsNil, gAdd_i, gLt_i, gSub_i, gMul_i, gDiv_i, gMod_i, gGt_i, gLe_i, gGe_i, gInt_i, gNeg_i, gAbs_i, gMax_i, gMin_i, gPow_i, gSetI, gDivmod, gIx, OD.rd, OD.val, stAll, gLen, fItS, fItR1, fFor, fLc, wipeR, fPart, fNoPart, fSl, -List.map_map,m_is_count, F_is_count, e, cnt]
  | bl b =>
    have e : m_is_integer [.st (.bl b)] = some (.st (.bl false), [none]) := by
      have h1 : gIsi (.st (.bl b)) (.st (.raw (.ty "int"))) = some (.st (.bl true)) := by simp [gIsi, OD.rd, tyN, k2]
      have h2 : gIsi (.st (.bl b)) (.st (.raw (.ty "bool"))) = some (.st (.bl true)) := by simp [gIsi, OD.rd, tyN, k3]
      simp [runM, rho0, outsOf, fSeq, fRet, fAsg, gN, fFz, fPeek, fBack, fDrop, fBin, fUn, fC, fCons, fNil, fLend, fCall, putBack, fIfS, fB, fNot, fAnd, fOr, fAndV, fOrV, fNext, fIf, fX, fLst, fTup, fMov, fPar, gs2, gs3, gT, gsCons, gsNil, gAdd_i, gLt_i, gSub_i, gMul_i, gDiv_i, gMod_i, gGt_i, gLe_i, gGe_i, gInt_i, gNeg_i, gAbs_i, gMax_i, gMin_i, gPow_i, gSetI, gDivmod, gIx, OD.rd, OD.val, stAll, gLen, fItS, fItR1, fFor, fLc, wipeR, fPart, fNoPart, fSl, -List.map_map,m_is_integer, F_is_integer, h1, h2, gNotV]
    simp [runM, rho0, outsOf, fSeq, fRet, fAsg, gN, fFz, fPeek, fBack, fDrop, fBin, fUn, fC, fCons, fNil, fLend, fCall, putBack, fIfS, fB, fNot, fAnd, fOr, fAndV, fOrV, fNext, fIf, fX, fLst, fTup, fMov, fPar, gs2, gs3, gT, gsCons, gsNil, gAdd_i, gLt_i, gSub_i, gMul_i, gDiv_i, gMod_i, gGt_i, gLe_i, gGe_i, gInt_i, gNeg_i, gAbs_i, gMax_i, gMin_i, gPow_i, gSetI, gDivmod, gIx, OD.rd, OD.val, stAll, gLen, fItS, fItR1, fFor, fLc, wipeR, fPart, fNoPart, fSl, -List.map_map,m_is_count, F_is_count, e, cnt]
  | int i =>
    have e := is_int_ok i
    simp [runM, rho0, outsOf, fSeq, fRet, fAsg, gN, fFz, fPeek, fBack, fDrop, fBin, fUn, fC, fCons, fNil, fLend, fCall, putBack, fIfS, fB, fNot, fAnd, fOr, fAndV, fOrV, fNext, fIf, fX, fLst, fTup, fMov, fPar, gs2, gs3, gT, gsCons, gsNil, gAdd_i, gLt_i, gSub_i, gMul_i, gDiv_i, gMod_i, gGt_i, gLe_i, gGe_i, gInt_i, gNeg_i, gAbs_i, gMax_i, gMin_i, gPow_i, gSetI, gDivmod, gIx, OD.rd, OD.val, stAll, gLen, fItS, fItR1, fFor, fLc, wipeR, fPart, fNoPart, fSl, -List.map_map,m_is_count, F_is_count, e, cnt]
  | str z =>
    have e : m_is_integer [.st (.str z)] = some (.st (.bl false), [none]) := by
      have h1 : gIsi (.st (.str z)) (.st (.raw (.ty "int"))) = some (.st (.bl false)) := by simp [gIsi, OD.rd, tyN, k4]
      simp [runM, rho0, outsOf, fSeq, fRet, fAsg, gN, fFz, fPeek, fBack, fDrop, fBin, fUn, fC, fCons, fNil, fLend, fCall, putBack, fIfS, fB, fNot, fAnd, fOr, fAndV, fOrV, fNext, fIf, fX, fLst, fTup, fMov, fPar, gs2, gs3, gT, gsCons, gsNil, gAdd_i, gLt_i, gSub_i, gMul_i, gDiv_i, gMod_i, gGt_i, gLe_i, gGe_i, gInt_i, gNeg_i, gAbs_i, gMax_i, gMin_i, gPow_i, gSetI, gDivmod, gIx, OD.rd, OD.val, stAll, gLen, fItS, fItR1, fFor, fLc, wipeR, fPart, fNoPart, fSl, -List.map_map,m_is_integer, F_is_integer, h1]
    simp [runM, rho0, outsOf, fSeq, fRet, fAsg, gN, fFz, fPeek, fBack, fDrop, fBin, fUn, fC, fCons, fNil, fLend, fCall, putBack, fIfS, fB, fNot, fAnd, fOr, fAndV, fOrV, fNext, fIf, fX, fLst, fTup, fMov, fPar, gs2, gs3, gT, gsCons, gsNil, gAdd_i, gLt_i, gSub_i, gMul_i, gDiv_i, gMod_i, gGt_i, gLe_i, gGe_i, gInt_i, gNeg_i, gAbs_i, gMax_i, gMin_i, gPow_i, gSetI, gDivmod, gIx, OD.rd, OD.val, stAll, gLen, fItS, fItR1, fFor, fLc, wipeR, fPart, fNoPart, fSl, -List.map_map,m_is_count, F_is_count, e, cnt]
  | _ => cases h
end Lw
set_option Elab.async false
set_option linter.all false
set_option maxRecDepth 100000
set_option maxHeartbeats 400000
namespace Lw
open PySem L2 Qy
noncomputable def IsC : Fs := (fIfS (fOr (fNot (fB (fBin gIsi (fP 1) (fE (fC (.raw (.ty "tuple"))))))) (fOr (fB (fBin gNe (fE (fUn gLen (fP 1))) (fE (fC (.int 3))))) (fOr (fNot (fB (fCall m_is_count (fCons (fBin gIx (fP 1) (fE (fC (.int 0)))) fNil) [none]))) (fNot (fB (fCall m_is_count (fCons (fBin gIx (fP 1) (fE (fC (.int 2)))) fNil) [none])))))) (fRet (fC (.bl false))) fNext)
def IsR : Fs := (fRet (fBin gInQ (fE (fFz (fP 1))) (fE (fGet2 (fP 0) (fBin gIx (fP 1) (fE (fC (.int 0)))) (fLst fNil)))))
theorem isF : F_is_step = fSeq IsC IsR := rfl
theorem isi_tup (ds : List D) : gIsi (.st (.tup ds)) (.st (.raw (.ty "tuple"))) = some (.st (.bl true)) := by
  have : kitB "tuple" "tuple" = some true := by decide +kernel
  simp [gIsi, OD.rd, tyN, this]
theorem isi_not {d : D} {n : String} (h : tyN d = some n) (hk : kitB n "tuple" = some false) : gIsi (.st d) (.st (.raw (.ty "tuple"))) = some (.st (.bl false)) := by
  simp [gIsi, OD.rd, h, hk]
theorem is_out {S x : D} (h : IsC [some (.st S), some (.st x)] = some (.rt (.st (.bl false)) [some (.st S), some (.st x)])) : m_is_step [.st S, .st x] = some (.st (.bl false), [none, none]) := by
  have e0 : rho0 N_is_step [.st S, .st x] = [some (.st S), some (.st x)] := rfl
  rw [m_is_step, runM, isF, e0]
  simp only [fSeq, h, outsOf]
theorem is_no {S x : D} {n : String} (h : tyN x = some n) (hk : kitB n "tuple" = some false) : m_is_step [.st S, .st x] = some (.st (.bl false), [none, none]) := by
  have h1 := isi_not h hk
  exact is_out (by simp only [runM, outsOf, fSeq, fRet, fAsg, gN, fFz, fPeek, fBack, fDrop, fBin, fUn, fC, fCons, fNil, fLend, fCall, fCallK, pick, List.filterMap_cons, List.filterMap_nil, putBack, fIfS, fB, fNot, fAnd, fOr, fAndV, fOrV, fNext, fIf, fX, fLst, fTup, fMov, fPar, gs2, gs3, gT, gsCons, gsNil, fYes, gAdd_i, gLt_i, gSub_i, gDiv_i, gMod_i, gGt_i, gLe_i, gGe_i, gInt_i, gNeg_i, gAbs_i, gMax_i, gMin_i, OD.val, valL, valL_st, fItS, fFor, fLc, wipeR, fPart, fNoPart, fSl, fAppend, fExtend, fPop, fGet2, fD1, fDNew, keyD, gSetQ, gSetI, gSetD, stK_map, fItR1, fLRg, List.getElem?_cons_succ, List.getElem?_cons_zero, List.set_cons_succ, List.set_cons_zero, List.length_cons, List.length_nil, List.map_cons, List.map_nil, Option.map_some, Option.map_none, Nat.zero_add, Nat.reduceAdd, Nat.reduceLT, Nat.reduceEqDiff, and_self, big0, big1, big2, big3, big4, big5, if_true, if_false, ite_true, ite_false, Bool.not_true, Bool.not_false, Bool.true_and, Bool.false_and,IsC, h1])
theorem is_len {S : D} {xs : List D} (h : xs.length ≠ 3) : m_is_step [.st S, .st (.tup xs)] = some (.st (.bl false), [none, none]) := by
  have h1 := isi_tup xs
  have h2 : gLen (.st (.tup xs)) = some (.st (.int (xs.length : Nat))) := rfl
  have h3 : gNe (.st (.int (xs.length : Nat))) (.st (.int 3)) = some (.st (.bl true)) := by
    rw [neI]
    have : ((xs.length : Nat) : Int) ≠ 3 := by omega
    simp [this]
  generalize ((xs.length : Nat) : Int) = m at h2 h3
  exact is_out (by simp only [runM, outsOf, fSeq, fRet, fAsg, gN, fFz, fPeek, fBack, fDrop, fBin, fUn, fC, fCons, fNil, fLend, fCall, fCallK, pick, List.filterMap_cons, List.filterMap_nil, putBack, fIfS, fB, fNot, fAnd, fOr, fAndV, fOrV, fNext, fIf, fX, fLst, fTup, fMov, fPar, gs2, gs3, gT, gsCons, gsNil, fYes, gAdd_i, gLt_i, gSub_i, gDiv_i, gMod_i, gGt_i, gLe_i, gGe_i, gInt_i, gNeg_i, gAbs_i, gMax_i, gMin_i, OD.val, valL, valL_st, fItS, fFor, fLc, wipeR, fPart, fNoPart, fSl, fAppend, fExtend, fPop, fGet2, fD1, fDNew, keyD, gSetQ, gSetI, gSetD, stK_map, fItR1, fLRg, List.getElem?_cons_succ, List.getElem?_cons_zero, List.set_cons_succ, List.set_cons_zero, List.length_cons, List.length_nil, List.map_cons, List.map_nil, Option.map_some, Option.map_none, Nat.zero_add, Nat.reduceAdd, Nat.reduceLT, Nat.reduceEqDiff, and_self, big0, big1, big2, big3, big4, big5, if_true, if_false, ite_true, ite_false, Bool.not_true, Bool.not_false, Bool.true_and, Bool.false_and,IsC, h1, h2, h3])
theorem ne33 : gNe (.st (.int 3)) (.st (.int 3)) = some (.st (.bl false)) := by rw [neI]; simp
theorem is3_no {S x y z : D} (h0 : plain1 x = true) (h2 : plain1 z = true) (h : cnt x = false ∨ cnt z = false) : m_is_step [.st S, .st (.tup [x, y, z])] = some (.st (.bl false), [none, none]) := by
  have g1 := isi_tup [x, y, z]
  have g2 : gLen (.st (.tup [x, y, z])) = some (.st (.int 3)) := rfl
  have g3 := ne33
  have g4 : gIx (.st (.tup [x, y, z])) (.st (.int 0)) = some (.st x) := rfl
  have g5 : gIx (.st (.tup [x, y, z])) (.st (.int 2)) = some (.st z) := rfl
  have c1 := is_countI h0
  have c2 := is_countI h2
  refine is_out ?_
  cases hx : cnt x with
  | false =>
    rw [hx] at c1
    simp only [runM, outsOf, fSeq, fRet, fAsg, gN, fFz, fPeek, fBack, fDrop, fBin, fUn, fC, fCons, fNil, fLend, fCall, fCallK, pick, List.filterMap_cons, List.filterMap_nil, putBack, fIfS, fB, fNot, fAnd, fOr, fAndV, fOrV, fNext, fIf, fX, fLst, fTup, fMov, fPar, gs2, gs3, gT, gsCons, gsNil, fYes, gAdd_i, gLt_i, gSub_i, gDiv_i, gMod_i, gGt_i, gLe_i, gGe_i, gInt_i, gNeg_i, gAbs_i, gMax_i, gMin_i, OD.val, valL, valL_st, fItS, fFor, fLc, wipeR, fPart, fNoPart, fSl, fAppend, fExtend, fPop, fGet2, fD1, fDNew, keyD, gSetQ, gSetI, gSetD, stK_map, fItR1, fLRg, List.getElem?_cons_succ, List.getElem?_cons_zero, List.set_cons_succ, List.set_cons_zero, List.length_cons, List.length_nil, List.map_cons, List.map_nil, Option.map_some, Option.map_none, Nat.zero_add, Nat.reduceAdd, Nat.reduceLT, Nat.reduceEqDiff, and_self, big0, big1, big2, big3, big4, big5, if_true, if_false, ite_true, ite_false, Bool.not_true, Bool.not_false, Bool.true_and, Bool.false_and,IsC, g1, g2, g3, g4, c1]
  | true =>
    rw [hx] at c1 h
    have hz : cnt z = false := by
      rcases h with h | h
      · cases h
      · exact h
    rw [hz] at c2
    simp only [runM, outsOf, fSeq, fRet, fAsg, gN, fFz, fPeek, fBack, fDrop, fBin, fUn, fC, fCons, fNil, fLend, fCall, fCallK, pick, List.filterMap_cons, List.filterMap_nil, putBack, fIfS, fB, fNot, fAnd, fOr, fAndV, fOrV, fNext, fIf, fX, fLst, fTup, fMov, fPar, gs2, gs3, gT, gsCons, gsNil, fYes, gAdd_i, gLt_i, gSub_i, gDiv_i, gMod_i, gGt_i, gLe_i, gGe_i, gInt_i, gNeg_i, gAbs_i, gMax_i, gMin_i, OD.val, valL, valL_st, fItS, fFor, fLc, wipeR, fPart, fNoPart, fSl, fAppend, fExtend, fPop, fGet2, fD1, fDNew, keyD, gSetQ, gSetI, gSetD, stK_map, fItR1, fLRg, List.getElem?_cons_succ, List.getElem?_cons_zero, List.set_cons_succ, List.set_cons_zero, List.length_cons, List.length_nil, List.map_cons, List.map_nil, Option.map_some, Option.map_none, Nat.zero_add, Nat.reduceAdd, Nat.reduceLT, Nat.reduceEqDiff, and_self, big0, big1, big2, big3, big4, big5, if_true, if_false, ite_true, ite_false, Bool.not_true, Bool.not_false, Bool.true_and, Bool.false_and,IsC, g1, g2, g3, g4, c1, g5, c2]
theorem is3_yes {B : List Tri} {y : D} {a b : Int} {r : Bool} (ha : 0 ≤ a) (hb : 0 ≤ b) (h : ∀ o : OD, o.py = some (.list ((atS (sT B) a).map pS)) → gInQ (.st (.tup [.int a, y, .int b])) o = some (.st (.bl r))) :
    m_is_step [.st (.dK (sK B)), .st (.tup [.int a, y, .int b])] = some (.st (.bl r), [none, none]) := by
  have g1 := isi_tup [.int a, y, .int b]
  have g2 : gLen (.st (.tup [.int a, y, .int b])) = some (.st (.int 3)) := rfl
  have g3 := ne33
  have g4 : gIx (.st (.tup [.int a, y, .int b])) (.st (.int 0)) = some (.st (.int a)) := rfl
  have g5 : gIx (.st (.tup [.int a, y, .int b])) (.st (.int 2)) = some (.st (.int b)) := rfl
  have c1 := is_count_ok ha
  have c2 := is_count_ok hb
  have e6 : IsC [some (.st (.dK (sK B))), some (.st (.tup [.int a, y, .int b]))] = some (.nx [some (.st (.dK (sK B))), some (.st (.tup [.int a, y, .int b]))]) := by
    simp only [runM, outsOf, fSeq, fRet, fAsg, gN, fFz, fPeek, fBack, fDrop, fBin, fUn, fC, fCons, fNil, fLend, fCall, fCallK, pick, List.filterMap_cons, List.filterMap_nil, putBack, fIfS, fB, fNot, fAnd, fOr, fAndV, fOrV, fNext, fIf, fX, fLst, fTup, fMov, fPar, gs2, gs3, gT, gsCons, gsNil, fYes, gAdd_i, gLt_i, gSub_i, gDiv_i, gMod_i, gGt_i, gLe_i, gGe_i, gInt_i, gNeg_i, gAbs_i, gMax_i, gMin_i, OD.val, valL, valL_st, fItS, fFor, fLc, wipeR, fPart, fNoPart, fSl, fAppend, fExtend, fPop, fGet2, fD1, fDNew, keyD, gSetQ, gSetI, gSetD, stK_map, fItR1, fLRg, List.getElem?_cons_succ, List.getElem?_cons_zero, List.set_cons_succ, List.set_cons_zero, List.length_cons, List.length_nil, List.map_cons, List.map_nil, Option.map_some, Option.map_none, Nat.zero_add, Nat.reduceAdd, Nat.reduceLT, Nat.reduceEqDiff, and_self, big0, big1, big2, big3, big4, big5, if_true, if_false, ite_true, ite_false, Bool.not_true, Bool.not_false, Bool.true_and, Bool.false_and,IsC, g1, g2, g3, g4, c1, g5, c2]
  obtain ⟨o, k1, k2, k3, k4⟩ := get_sK (B := B) (a := a) (x := .st (.dK (sK B))) rfl (oa := fP 0) (fk := (fBin gIx (fP 1) (fE (fC (.int 0))))) (ρ := [some (.st (.dK (sK B))), some (.st (.tup [.int a, y, .int b]))]) (ρ1 := [some (.st (.dK (sK B))), some (.st (.tup [.int a, y, .int b]))]) (ρ2 := [some (.st (.dK (sK B))), some (.st (.tup [.int a, y, .int b]))]) (by simp only [runM, outsOf, fSeq, fRet, fAsg, gN, fFz, fPeek, fBack, fDrop, fBin, fUn, fC, fCons, fNil, fLend, fCall, fCallK, pick, List.filterMap_cons, List.filterMap_nil, putBack, fIfS, fB, fNot, fAnd, fOr, fAndV, fOrV, fNext, fIf, fX, fLst, fTup, fMov, fPar, gs2, gs3, gT, gsCons, gsNil, fYes, gAdd_i, gLt_i, gSub_i, gDiv_i, gMod_i, gGt_i, gLe_i, gGe_i, gInt_i, gNeg_i, gAbs_i, gMax_i, gMin_i, OD.val, valL, valL_st, fItS, fFor, fLc, wipeR, fPart, fNoPart, fSl, fAppend, fExtend, fPop, fGet2, fD1, fDNew, keyD, gSetQ, gSetI, gSetD, stK_map, fItR1, fLRg, List.getElem?_cons_succ, List.getElem?_cons_zero, List.set_cons_succ, List.set_cons_zero, List.length_cons, List.length_nil, List.map_cons, List.map_nil, Option.map_some, Option.map_none, Nat.zero_add, Nat.reduceAdd, Nat.reduceLT, Nat.reduceEqDiff, and_self, big0, big1, big2, big3, big4, big5, if_true, if_false, ite_true, ite_false, Bool.not_true, Bool.not_false, Bool.true_and, Bool.false_and]) (by simp only [runM, outsOf, fSeq, fRet, fAsg, gN, fFz, fPeek, fBack, fDrop, fBin, fUn, fC, fCons, fNil, fLend, fCall, fCallK, pick, List.filterMap_cons, List.filterMap_nil, putBack, fIfS, fB, fNot, fAnd, fOr, fAndV, fOrV, fNext, fIf, fX, fLst, fTup, fMov, fPar, gs2, gs3, gT, gsCons, gsNil, fYes, gAdd_i, gLt_i, gSub_i, gDiv_i, gMod_i, gGt_i, gLe_i, gGe_i, gInt_i, gNeg_i, gAbs_i, gMax_i, gMin_i, OD.val, valL, valL_st, fItS, fFor, fLc, wipeR, fPart, fNoPart, fSl, fAppend, fExtend, fPop, fGet2, fD1, fDNew, keyD, gSetQ, gSetI, gSetD, stK_map, fItR1, fLRg, List.getElem?_cons_succ, List.getElem?_cons_zero, List.set_cons_succ, List.set_cons_zero, List.length_cons, List.length_nil, List.map_cons, List.map_nil, Option.map_some, Option.map_none, Nat.zero_add, Nat.reduceAdd, Nat.reduceLT, Nat.reduceEqDiff, and_self, big0, big1, big2, big3, big4, big5, if_true, if_false, ite_true, ite_false, Bool.not_true, Bool.not_false, Bool.true_and, Bool.false_and,g4])
  have e5 := h o (by rw [k4]; exact py_sL _)
  have ef : fFz (fP 1) [some (.st (.dK (sK B))), some (.st (.tup [.int a, y, .int b]))] = some (.st (.tup [.int a, y, .int b]), [some (.st (.dK (sK B))), some (.st (.tup [.int a, y, .int b]))]) := by simp only [runM, outsOf, fSeq, fRet, fAsg, gN, fFz, fPeek, fBack, fDrop, fBin, fUn, fC, fCons, fNil, fLend, fCall, fCallK, pick, List.filterMap_cons, List.filterMap_nil, putBack, fIfS, fB, fNot, fAnd, fOr, fAndV, fOrV, fNext, fIf, fX, fLst, fTup, fMov, fPar, gs2, gs3, gT, gsCons, gsNil, fYes, gAdd_i, gLt_i, gSub_i, gDiv_i, gMod_i, gGt_i, gLe_i, gGe_i, gInt_i, gNeg_i, gAbs_i, gMax_i, gMin_i, OD.val, valL, valL_st, fItS, fFor, fLc, wipeR, fPart, fNoPart, fSl, fAppend, fExtend, fPop, fGet2, fD1, fDNew, keyD, gSetQ, gSetI, gSetD, stK_map, fItR1, fLRg, List.getElem?_cons_succ, List.getElem?_cons_zero, List.set_cons_succ, List.set_cons_zero, List.length_cons, List.length_nil, List.map_cons, List.map_nil, Option.map_some, Option.map_none, Nat.zero_add, Nat.reduceAdd, Nat.reduceLT, Nat.reduceEqDiff, and_self, big0, big1, big2, big3, big4, big5, if_true, if_false, ite_true, ite_false, Bool.not_true, Bool.not_false, Bool.true_and, Bool.false_and]
  have eb := fBin_eq (g := gInQ) (a := (fE (fFz (fP 1)))) (b := (fE (fGet2 (fP 0) (fBin gIx (fP 1) (fE (fC (.int 0)))) (fLst fNil)))) (ρ := [some (.st (.dK (sK B))), some (.st (.tup [.int a, y, .int b]))]) ef k1 e5
  have eR : IsR [some (.st (.dK (sK B))), some (.st (.tup [.int a, y, .int b]))] = some (.rt (.st (.bl r)) [some (.st (.dK (sK B))), some (.st (.tup [.int a, y, .int b]))]) := by
    unfold IsR fRet
    rw [eb]
    simp only [fDrop, fP, fBack, List.set_cons_zero]
  have e0 : rho0 N_is_step [.st (.dK (sK B)), .st (.tup [.int a, y, .int b])] = [some (.st (.dK (sK B))), some (.st (.tup [.int a, y, .int b]))] := rfl
  rw [m_is_step, runM, isF, e0]
  simp only [fSeq, e6, eR, outsOf]
theorem eqv_ls (t : Stp) (a b : Int) (w : Str) : PyData.eqv (pS t) (.tuple [.int a, .list [.str w], .int b]) = false := by
  show (t.1 == a && (PyData.eqv (.str t.2.1) (.list [.str w]) && _)) = false
  have : PyData.eqv (.str t.2.1) (.list [.str w]) = false := rfl
  rw [this]
  simp
theorem in_ls {A : List Stp} {o : OD} {a b : Int} {w : Str} (ho : o.py = some (.list (A.map pS))) (hA : ∀ t ∈ A, PyData.strOk t.2.1 = true) (hw : PyData.strOk w = true) : gInQ (.st (.tup [.int a, .lst [.str w], .int b])) o = some (.st (.bl false)) := by
  have e0 : gInS (.st (.tup [.int a, .lst [.str w], .int b])) o = none := rfl
  have e1 : gInF false (.st (.tup [.int a, .lst [.str w], .int b])) o = none := by
    unfold gInF
    simp [OD.rd, scOf]
  have hs : SeqAt.shaped (.tuple [.int a, .list [.str w], .int b]) = true := by
    unfold SeqAt.shaped
    rw [show PyData.canLay0 (.tuple [.int a, .list [.str w], .int b]) = (true && ((PyData.strOk w && true) && (true && true))) from rfl, hw]
    rfl
  unfold gInQ gOr2
  rw [e0]
  simp only
  rw [e1]
  simp only
  unfold gIn
  rw [ho, show OD.py (.st (.tup [.int a, .lst [.str w], .int b])) = some (.tuple [.int a, .list [.str w], .int b]) from rfl]
  simp only
  rw [if_pos ⟨hs, shaped_sL hA⟩]
  congr 3
  rw [List.any_map]
  rw [List.any_eq_false]
  intro t _
  simp only [Function.comp, eqv_ls]
  decide
theorem is_stepI {B : List Tri} (hS : SOk (sT B)) {x : D} (h : Itm x) : m_is_step [.st (.dK (sK B)), .st x] = some (.st (.bl (okI (sT B) x)), [none, none]) := by
  have hA : ∀ a, ∀ t ∈ atS (sT B) a, PyData.strOk t.2.1 = true := fun a t ht => strOk_sok (hS.sg t (atS_mem.mp ht).1).1
  cases h with
  | @stp i j w a b c =>
    refine is3_yes a.1 c.1 fun o ho => ?_
    have e := in_s (t := (i, w, j)) ho (hA i) (strOk_sok b.sok)
    rw [show (D.tup [.int i, .str w, .int j]) = Lw.stp (i, w, j) from rfl, e]
    have : decide ((i, w, j) ∈ atS (sT B) i) = okI (sT B) (Lw.stp (i, w, j)) := by simp [okI, atS_mem]
    rw [this]
  | @bl0 b j w hw hj => exact is3_no rfl rfl (.inl rfl)
  | bl2 _ _ => exact is3_no rfl rfl (.inr rfl)
  | non2 _ _ => exact is3_no rfl rfl (.inr rfl)
  | str2 _ _ _ => exact is3_no rfl rfl (.inr rfl)
  | @lst1 i j w a b c => exact is3_yes a.1 c.1 fun o ho => in_ls ho (hA i) (strOk_sok b.sok)
  | two _ _ => exact is_len (by simp)
  | four _ _ _ => exact is_len (by simp)
  | nil => exact is_len (by simp)
  | non => exact is_no rfl (by decide +kernel)
  | int0 => exact is_no rfl (by decide +kernel)
  | str _ => exact is_no rfl (by decide +kernel)
  | lst3 _ _ _ => exact is_no rfl (by decide +kernel)
  | lst0 => exact is_no rfl (by decide +kernel)
/-! ### the program's judgement -/
noncomputable def IpB : Fs := (fSeq (fIfS (fOr (fNot (fB (fCall m_is_step (fCons (fFz (fP 3)) (fCons (fFz (fP 5)) fNil)) [none, none]))) (fB (fBin gNe (fE (fBin gIx (fP 5) (fE (fC (.int 0))))) (fP 4)))) (fRet (fC (.bl false))) fNext) (fAsg (fBin gIx (fP 5) (fE (fC (.int 2)))) (gN 4)))
theorem okI_tup {A : List Stp} {x : D} (h : okI A x = true) : ∃ a w b, x = .tup [.int a, .str w, .int b] ∧ (a, w, b) ∈ A := by
  unfold okI at h
  split at h
  · exact ⟨_, _, _, rfl, by simpa using h⟩
  · cases h
theorem jd_no {A : List Stp} {x : D} {h : Int} (hx : okI A x = false) : jd A h x = none := by
  unfold jd
  split
  · rename_i a w b
    have : ¬ (a, w, b) ∈ A := by simpa [okI] using hx
    simp [this]
  · rfl
theorem ipB_ok {B : List Tri} (hS : SOk (sT B)) {x0 x1 x2 : Option OD} {x : D} (hx : Itm x) {h : Int} {x3 : OD} (h3 : x3 = .oK (stD (sK B)) ∨ x3 = .st (.dK (sK B))) :
    IpB [x0, x1, x2, some x3, some (.st (.int h)), some (.st x)] = match jd (sT B) h x with
      | some b => some (.nx [x0, x1, x2, some (.st (.dK (sK B))), some (.st (.int b)), some (.st x)])
      | none => some (.rt (.st (.bl false)) [x0, x1, x2, some (.st (.dK (sK B))), some (.st (.int h)), some (.st x)]) := by
  have e1 := is_stepI hS hx
  cases ho : okI (sT B) x with
  | false =>
    rw [ho] at e1
    rw [jd_no ho]
    rcases h3 with rfl | rfl
    · simp only [runM, outsOf, fSeq, fRet, fAsg, gN, fFz, fPeek, fBack, fDrop, fBin, fUn, fC, fCons, fNil, fLend, fCall, fCallK, pick, List.filterMap_cons, List.filterMap_nil, putBack, fIfS, fB, fNot, fAnd, fOr, fAndV, fOrV, fNext, fIf, fX, fLst, fTup, fMov, fPar, gs2, gs3, gT, gsCons, gsNil, fYes, gAdd_i, gLt_i, gSub_i, gDiv_i, gMod_i, gGt_i, gLe_i, gGe_i, gInt_i, gNeg_i, gAbs_i, gMax_i, gMin_i, OD.val, valL, valL_st, fItS, fFor, fLc, wipeR, fPart, fNoPart, fSl, fAppend, fExtend, fPop, fGet2, fD1, fDNew, keyD, gSetQ, gSetI, gSetD, stK_map, fItR1, fLRg, List.getElem?_cons_succ, List.getElem?_cons_zero, List.set_cons_succ, List.set_cons_zero, List.length_cons, List.length_nil, List.map_cons, List.map_nil, Option.map_some, Option.map_none, Nat.zero_add, Nat.reduceAdd, Nat.reduceLT, Nat.reduceEqDiff, and_self, big0, big1, big2, big3, big4, big5, if_true, if_false, ite_true, ite_false, Bool.not_true, Bool.not_false, Bool.true_and, Bool.false_and,IpB, valK_st, e1]
    · simp only [runM, outsOf, fSeq, fRet, fAsg, gN, fFz, fPeek, fBack, fDrop, fBin, fUn, fC, fCons, fNil, fLend, fCall, fCallK, pick, List.filterMap_cons, List.filterMap_nil, putBack, fIfS, fB, fNot, fAnd, fOr, fAndV, fOrV, fNext, fIf, fX, fLst, fTup, fMov, fPar, gs2, gs3, gT, gsCons, gsNil, fYes, gAdd_i, gLt_i, gSub_i, gDiv_i, gMod_i, gGt_i, gLe_i, gGe_i, gInt_i, gNeg_i, gAbs_i, gMax_i, gMin_i, OD.val, valL, valL_st, fItS, fFor, fLc, wipeR, fPart, fNoPart, fSl, fAppend, fExtend, fPop, fGet2, fD1, fDNew, keyD, gSetQ, gSetI, gSetD, stK_map, fItR1, fLRg, List.getElem?_cons_succ, List.getElem?_cons_zero, List.set_cons_succ, List.set_cons_zero, List.length_cons, List.length_nil, List.map_cons, List.map_nil, Option.map_some, Option.map_none, Nat.zero_add, Nat.reduceAdd, Nat.reduceLT, Nat.reduceEqDiff, and_self, big0, big1, big2, big3, big4, big5, if_true, if_false, ite_true, ite_false, Bool.not_true, Bool.not_false, Bool.true_and, Bool.false_and,IpB, e1]
  | true =>
    rw [ho] at e1
    obtain ⟨a, w, b, rfl, hm⟩ := okI_tup ho
    have g4 : gIx (.st (.tup [.int a, .str w, .int b])) (.st (.int 0)) = some (.st (.int a)) := rfl
    have g5 : gIx (.st (.tup [.int a, .str w, .int b])) (.st (.int 2)) = some (.st (.int b)) := rfl
    have en := neI a h
    by_cases ha : a = h
    · have e2 : gNe (.st (.int a)) (.st (.int h)) = some (.st (.bl false)) := by rw [en]; simp [ha]
      have ej : jd (sT B) h (.tup [.int a, .str w, .int b]) = some b := by simp [jd, hm, ha]; exact ha ▸ hm
      rw [ej]
      rcases h3 with rfl | rfl
      · simp only [runM, outsOf, fSeq, fRet, fAsg, gN, fFz, fPeek, fBack, fDrop, fBin, fUn, fC, fCons, fNil, fLend, fCall, fCallK, pick, List.filterMap_cons, List.filterMap_nil, putBack, fIfS, fB, fNot, fAnd, fOr, fAndV, fOrV, fNext, fIf, fX, fLst, fTup, fMov, fPar, gs2, gs3, gT, gsCons, gsNil, fYes, gAdd_i, gLt_i, gSub_i, gDiv_i, gMod_i, gGt_i, gLe_i, gGe_i, gInt_i, gNeg_i, gAbs_i, gMax_i, gMin_i, OD.val, valL, valL_st, fItS, fFor, fLc, wipeR, fPart, fNoPart, fSl, fAppend, fExtend, fPop, fGet2, fD1, fDNew, keyD, gSetQ, gSetI, gSetD, stK_map, fItR1, fLRg, List.getElem?_cons_succ, List.getElem?_cons_zero, List.set_cons_succ, List.set_cons_zero, List.length_cons, List.length_nil, List.map_cons, List.map_nil, Option.map_some, Option.map_none, Nat.zero_add, Nat.reduceAdd, Nat.reduceLT, Nat.reduceEqDiff, and_self, big0, big1, big2, big3, big4, big5, if_true, if_false, ite_true, ite_false, Bool.not_true, Bool.not_false, Bool.true_and, Bool.false_and,IpB, valK_st, e1, g4, e2, g5]
      · simp only [runM, outsOf, fSeq, fRet, fAsg, gN, fFz, fPeek, fBack, fDrop, fBin, fUn, fC, fCons, fNil, fLend, fCall, fCallK, pick, List.filterMap_cons, List.filterMap_nil, putBack, fIfS, fB, fNot, fAnd, fOr, fAndV, fOrV, fNext, fIf, fX, fLst, fTup, fMov, fPar, gs2, gs3, gT, gsCons, gsNil, fYes, gAdd_i, gLt_i, gSub_i, gDiv_i, gMod_i, gGt_i, gLe_i, gGe_i, gInt_i, gNeg_i, gAbs_i, gMax_i, gMin_i, OD.val, valL, valL_st, fItS, fFor, fLc, wipeR, fPart, fNoPart, fSl, fAppend, fExtend, fPop, fGet2, fD1, fDNew, keyD, gSetQ, gSetI, gSetD, stK_map, fItR1, fLRg, List.getElem?_cons_succ, List.getElem?_cons_zero, List.set_cons_succ, List.set_cons_zero, List.length_cons, List.length_nil, List.map_cons, List.map_nil, Option.map_some, Option.map_none, Nat.zero_add, Nat.reduceAdd, Nat.reduceLT, Nat.reduceEqDiff, and_self, big0, big1, big2, big3, big4, big5, if_true, if_false, ite_true, ite_false, Bool.not_true, Bool.not_false, Bool.true_and, Bool.false_and,IpB, e1, g4, e2, g5]
    · have e2 : gNe (.st (.int a)) (.st (.int h)) = some (.st (.bl true)) := by rw [en]; simp [ha]
      have ej : jd (sT B) h (.tup [.int a, .str w, .int b]) = none := by simp [jd, ha]
      rw [ej]
      rcases h3 with rfl | rfl
      · simp only [runM, outsOf, fSeq, fRet, fAsg, gN, fFz, fPeek, fBack, fDrop, fBin, fUn, fC, fCons, fNil, fLend, fCall, fCallK, pick, List.filterMap_cons, List.filterMap_nil, putBack, fIfS, fB, fNot, fAnd, fOr, fAndV, fOrV, fNext, fIf, fX, fLst, fTup, fMov, fPar, gs2, gs3, gT, gsCons, gsNil, fYes, gAdd_i, gLt_i, gSub_i, gDiv_i, gMod_i, gGt_i, gLe_i, gGe_i, gInt_i, gNeg_i, gAbs_i, gMax_i, gMin_i, OD.val, valL, valL_st, fItS, fFor, fLc, wipeR, fPart, fNoPart, fSl, fAppend, fExtend, fPop, fGet2, fD1, fDNew, keyD, gSetQ, gSetI, gSetD, stK_map, fItR1, fLRg, List.getElem?_cons_succ, List.getElem?_cons_zero, List.set_cons_succ, List.set_cons_zero, List.length_cons, List.length_nil, List.map_cons, List.map_nil, Option.map_some, Option.map_none, Nat.zero_add, Nat.reduceAdd, Nat.reduceLT, Nat.reduceEqDiff, and_self, big0, big1, big2, big3, big4, big5, if_true, if_false, ite_true, ite_false, Bool.not_true, Bool.not_false, Bool.true_and, Bool.false_and,IpB, valK_st, e1, g4, e2]
      · simp only [runM, outsOf, fSeq, fRet, fAsg, gN, fFz, fPeek, fBack, fDrop, fBin, fUn, fC, fCons, fNil, fLend, fCall, fCallK, pick, List.filterMap_cons, List.filterMap_nil, putBack, fIfS, fB, fNot, fAnd, fOr, fAndV, fOrV, fNext, fIf, fX, fLst, fTup, fMov, fPar, gs2, gs3, gT, gsCons, gsNil, fYes, gAdd_i, gLt_i, gSub_i, gDiv_i, gMod_i, gGt_i, gLe_i, gGe_i, gInt_i, gNeg_i, gAbs_i, gMax_i, gMin_i, OD.val, valL, valL_st, fItS, fFor, fLc, wipeR, fPart, fNoPart, fSl, fAppend, fExtend, fPop, fGet2, fD1, fDNew, keyD, gSetQ, gSetI, gSetD, stK_map, fItR1, fLRg, List.getElem?_cons_succ, List.getElem?_cons_zero, List.set_cons_succ, List.set_cons_zero, List.length_cons, List.length_nil, List.map_cons, List.map_nil, Option.map_some, Option.map_none, Nat.zero_add, Nat.reduceAdd, Nat.reduceLT, Nat.reduceEqDiff, and_self, big0, big1, big2, big3, big4, big5, if_true, if_false, ite_true, ite_false, Bool.not_true, Bool.not_false, Bool.true_and, Bool.false_and,IpB, e1, g4, e2]
theorem ipL_ok {B : List Tri} (hS : SOk (sT B)) {x0 x1 x2 : Option OD} : ∀ (xs : List D) (h : Int) (x3 : OD) (s5 : Option OD), (∀ x ∈ xs, Itm x) → (x3 = .oK (stD (sK B)) ∨ x3 = .st (.dK (sK B))) →
    match jdL (sT B) xs h with
    | some b => ∃ t3 t5, loopF (gN 5) IpB xs [x0, x1, x2, some x3, some (.st (.int h)), s5] = some (.nx [x0, x1, x2, t3, some (.st (.int b)), t5])
    | none => ∃ t3 t4 t5, loopF (gN 5) IpB xs [x0, x1, x2, some x3, some (.st (.int h)), s5] = some (.rt (.st (.bl false)) [x0, x1, x2, t3, t4, t5])
  | [], h, x3, s5, _, _ => ⟨some x3, s5, rfl⟩
  | x :: xs, h, x3, s5, hx, h3 => by
    have e1 := ipB_ok hS (x0 := x0) (x1 := x1) (x2 := x2) (hx x List.mem_cons_self) (h := h) h3
    have g1 : gN 5 (.st x) [x0, x1, x2, some x3, some (.st (.int h)), s5] = some [x0, x1, x2, some x3, some (.st (.int h)), some (.st x)] := by simp only [runM, outsOf, fSeq, fRet, fAsg, gN, fFz, fPeek, fBack, fDrop, fBin, fUn, fC, fCons, fNil, fLend, fCall, fCallK, pick, List.filterMap_cons, List.filterMap_nil, putBack, fIfS, fB, fNot, fAnd, fOr, fAndV, fOrV, fNext, fIf, fX, fLst, fTup, fMov, fPar, gs2, gs3, gT, gsCons, gsNil, fYes, gAdd_i, gLt_i, gSub_i, gDiv_i, gMod_i, gGt_i, gLe_i, gGe_i, gInt_i, gNeg_i, gAbs_i, gMax_i, gMin_i, OD.val, valL, valL_st, fItS, fFor, fLc, wipeR, fPart, fNoPart, fSl, fAppend, fExtend, fPop, fGet2, fD1, fDNew, keyD, gSetQ, gSetI, gSetD, stK_map, fItR1, fLRg, List.getElem?_cons_succ, List.getElem?_cons_zero, List.set_cons_succ, List.set_cons_zero, List.length_cons, List.length_nil, List.map_cons, List.map_nil, Option.map_some, Option.map_none, Nat.zero_add, Nat.reduceAdd, Nat.reduceLT, Nat.reduceEqDiff, and_self, big0, big1, big2, big3, big4, big5, if_true, if_false, ite_true, ite_false, Bool.not_true, Bool.not_false, Bool.true_and, Bool.false_and]
    unfold jdL
    cases ej : jd (sT B) h x with
    | none =>
      rw [ej] at e1
      simp only [Option.bind_none]
      refine ⟨some (.st (.dK (sK B))), some (.st (.int h)), some (.st x), ?_⟩
      unfold loopF
      simp only [g1, e1]
    | some b =>
      rw [ej] at e1
      simp only [Option.bind_some]
      have ih := ipL_ok hS (x0 := x0) (x1 := x1) (x2 := x2) xs b (.st (.dK (sK B))) (some (.st x)) (fun y hy => hx y (List.mem_cons_of_mem _ hy)) (.inr rfl)
      cases ejl : jdL (sT B) xs b with
      | none =>
        rw [ejl] at ih
        obtain ⟨t3, t4, t5, ih⟩ := ih
        refine ⟨t3, t4, t5, ?_⟩
        unfold loopF
        simp only [g1, e1]
        exact ih
      | some c =>
        rw [ejl] at ih
        obtain ⟨t3, t5, ih⟩ := ih
        refine ⟨t3, t5, ?_⟩
        unfold loopF
        simp only [g1, e1]
        exact ih
end Lw
set_option Elab.async false
set_option linter.all false
set_option maxRecDepth 100000
set_option maxHeartbeats 400000
namespace Lw
open PySem L2 Qy
inductive Thg : D → Prop
  | lst {xs : List D} : (∀ x ∈ xs, Itm x) → xs.length ≤ 70 → Thg (.lst xs)
  | tup {xs : List D} : (∀ x ∈ xs, Itm x) → xs.length ≤ 70 → Thg (.tup xs)
  | non : Thg .non
  | int0 : Thg (.int 0)
  | str0 : Thg (.str "")
  | dict : Thg (.dK [])
  | tru : Thg (.bl true)
def judge (A : List Stp) (N : Int) : D → Bool
  | .lst xs => decide (jdL A xs 0 = some N)
  | .tup xs => decide (jdL A xs 0 = some N)
  | _ => false
theorem is_listI {d : D} {n : String} {b c : Bool} (h : tyNK d = some n) (h1 : kitB n "list" = some b) (h2 : kitB n "tuple" = some c) : gIsi2K (.st d) (.st (.tup [.raw (.ty "list"), .raw (.ty "tuple")])) = some (.st (.bl (b || c))) := by
  simp [gIsi2K, OD.rd, h, h1, h2]
theorem m_is_listI {d : D} {b : Bool} (h : gIsi2K (.st d) (.st (.tup [.raw (.ty "list"), .raw (.ty "tuple")])) = some (.st (.bl b))) : m_is_list [.st d] = some (.st (.bl b), [none]) := by
  have e0 : rho0 N_is_list [.st d] = [some (.st d)] := rfl
  simp only [runM, outsOf, fSeq, fRet, fAsg, gN, fFz, fPeek, fBack, fDrop, fBin, fUn, fC, fCons, fNil, fLend, fCall, fCallK, pick, List.filterMap_cons, List.filterMap_nil, putBack, fIfS, fB, fNot, fAnd, fOr, fAndV, fOrV, fNext, fIf, fX, fLst, fTup, fMov, fPar, gs2, gs3, gT, gsCons, gsNil, fYes, gAdd_i, gLt_i, gSub_i, gDiv_i, gMod_i, gGt_i, gLe_i, gGe_i, gInt_i, gNeg_i, gAbs_i, gMax_i, gMin_i, OD.val, valL, valL_st, fItS, fFor, fLc, wipeR, fPart, fNoPart, fSl, fAppend, fExtend, fPop, fGet2, fD1, fDNew, keyD, gSetQ, gSetI, gSetD, stK_map, fItR1, fLRg, List.getElem?_cons_succ, List.getElem?_cons_zero, List.set_cons_succ, List.set_cons_zero, List.length_cons, List.length_nil, List.map_cons, List.map_nil, Option.map_some, Option.map_none, Nat.zero_add, Nat.reduceAdd, Nat.reduceLT, Nat.reduceEqDiff, and_self, big0, big1, big2, big3, big4, big5, if_true, if_false, ite_true, ite_false, Bool.not_true, Bool.not_false, Bool.true_and, Bool.false_and,m_is_list, F_is_list, e0, h]
/-- whether it is a list or a tuple -/
def isSq : D → Bool
  | .lst _ => true
  | .tup _ => true
  | _ => false
theorem sqI {d : D} (h : Thg d) : gIsi2K (.st d) (.st (.tup [.raw (.ty "list"), .raw (.ty "tuple")])) = some (.st (.bl (isSq d))) := by
  cases h with
  | lst _ _ => exact is_listI rfl (b := true) (c := false) (by decide +kernel) (by decide +kernel)
  | tup _ _ => exact is_listI rfl (b := false) (c := true) (by decide +kernel) (by decide +kernel)
  | non => exact is_listI rfl (b := false) (c := false) (by decide +kernel) (by decide +kernel)
  | int0 => exact is_listI rfl (b := false) (c := false) (by decide +kernel) (by decide +kernel)
  | str0 => exact is_listI rfl (b := false) (c := false) (by decide +kernel) (by decide +kernel)
  | dict => exact is_listI rfl (b := false) (c := false) (by decide +kernel) (by decide +kernel)
  | tru => exact is_listI rfl (b := false) (c := false) (by decide +kernel) (by decide +kernel)
/-- a list or a tuple of things -/
def itmsOf : D → List D
  | .lst xs => xs
  | .tup xs => xs
  | _ => []
theorem Thg.itms {d : D} (h : Thg d) : (∀ x ∈ itmsOf d, Itm x) ∧ (itmsOf d).length ≤ 70 := by
  cases h with
  | lst h1 h2 => exact ⟨h1, h2⟩
  | tup h1 h2 => exact ⟨h1, h2⟩
  | _ => exact ⟨(fun _ z => nomatch z), by simp [itmsOf]⟩
theorem itS {d : D} (h : isSq d = true) {ρ : Rho} (h2 : ρ[2]? = some (some (.st d))) : fItS (fFz (fP 2)) ρ = some (itmsOf d, ρ.set 2 (some (.st d))) := by
  unfold isSq at h
  split at h
  · simp only [fItS, fFz, fP, fPeek, fBack, h2, Option.map_some, OD.val, itmsOf]
  · simp only [fItS, fFz, fP, fPeek, fBack, h2, Option.map_some, OD.val, itmsOf]
  · cases h
theorem judge_sq {A : List Stp} {N : Int} {d : D} (h : isSq d = true) : judge A N d = decide (jdL A (itmsOf d) 0 = some N) := by
  unfold isSq at h
  split at h
  · rfl
  · rfl
  · cases h
theorem judge_no {A : List Stp} {N : Int} {d : D} (h : isSq d = false) : judge A N d = false := by
  unfold isSq at h
  unfold judge
  split at h
  · cases h
  · cases h
  · rfl
theorem is_planI {q : List Nat} {ws : List (List Nat)} (hq : QOk q) (hw : WOk ws) {d : D} (h : Thg d) : m_is_plan [.st (lotD ws), .st (.str (tx q)), .st d] = some (.st (.bl (judge (sT (bT q ws)) (q.length : Int) d)), [none, none, none]) := by
  have e1 := want_question_ok hq.low hq.ne hq.len
  have e2 := m_is_listI (sqI h)
  have e3 := steps_of_ok hq hw
  have hS := sT_sok hq hw
  have el := len_q hq.len
  obtain ⟨hi, _⟩ := h.itms
  generalize bT q ws = B at *
  generalize (q.length : Int) = N at *
  have e0 : rho0 N_is_plan_of [.st (lotD ws), .st (.str (tx q)), .st d] = [some (.st (lotD ws)), some (.st (.str (tx q))), some (.st d), none, none, none] := rfl
  have eF : F_is_plan_of = (fSeq (fIfS (fNot (fB (fCall m_is_list (fCons (fFz (fP 2)) fNil) [none]))) (fRet (fC (.bl false))) fNext) (fSeq (fPar (fCons (fCall m_steps_of (fCons (fFz (fP 0)) (fCons (fFz (fP 1)) fNil)) [none, none]) (fCons (fC (.int 0)) fNil)) (gs2 3 4)) (fSeq (fFor (fItS (fFz (fP 2))) (gN 5) IpB) (fRet (fBin gEq (fP 4) (fE (fUn gLen (fP 1)))))))) := rfl
  have e6 : m_is_plan_of [.st (lotD ws), .st (.str (tx q)), .st d] = some (.st (.bl (judge (sT B) N d)), [none, none, none]) := by
    rw [m_is_plan_of, runM, eF]
    cases hs : isSq d with
    | false =>
      rw [hs] at e2
      rw [judge_no hs]
      simp only [runM, outsOf, fSeq, fRet, fAsg, gN, fFz, fPeek, fBack, fDrop, fBin, fUn, fC, fCons, fNil, fLend, fCall, fCallK, pick, List.filterMap_cons, List.filterMap_nil, putBack, fIfS, fB, fNot, fAnd, fOr, fAndV, fOrV, fNext, fIf, fX, fLst, fTup, fMov, fPar, gs2, gs3, gT, gsCons, gsNil, fYes, gAdd_i, gLt_i, gSub_i, gDiv_i, gMod_i, gGt_i, gLe_i, gGe_i, gInt_i, gNeg_i, gAbs_i, gMax_i, gMin_i, OD.val, valL, valL_st, fItS, fFor, fLc, wipeR, fPart, fNoPart, fSl, fAppend, fExtend, fPop, fGet2, fD1, fDNew, keyD, gSetQ, gSetI, gSetD, stK_map, fItR1, fLRg, List.getElem?_cons_succ, List.getElem?_cons_zero, List.set_cons_succ, List.set_cons_zero, List.length_cons, List.length_nil, List.map_cons, List.map_nil, Option.map_some, Option.map_none, Nat.zero_add, Nat.reduceAdd, Nat.reduceLT, Nat.reduceEqDiff, and_self, big0, big1, big2, big3, big4, big5, if_true, if_false, ite_true, ite_false, Bool.not_true, Bool.not_false, Bool.true_and, Bool.false_and,e0, e2]
    | true =>
      rw [hs] at e2
      rw [judge_sq hs]
      have ei := itS hs (ρ := [some (.st (lotD ws)), some (.st (.str (tx q))), some (.st d), some (.oK (stD (sK B))), some (.st (.int 0)), none]) rfl
      have lp := ipL_ok hS (x0 := some (.st (lotD ws))) (x1 := some (.st (.str (tx q)))) (x2 := some (.st d)) (itmsOf d) 0 (.oK (stD (sK B))) none hi (.inl rfl)
      generalize itmsOf d = xs at *
      cases ej : jdL (sT B) xs 0 with
      | none =>
        rw [ej] at lp
        obtain ⟨t3, t4, t5, e4⟩ := lp
        simp only [List.set_cons_succ, List.set_cons_zero] at ei
        simp only [fSeq, fIfS, fNot, fB, fCall, fCons, fNil, fFz, fP, fPeek, fBack, e0, List.getElem?_cons_succ, List.getElem?_cons_zero, List.set_cons_succ, List.set_cons_zero, Option.map_some, OD.val, e2, e3, putBack, List.length_cons, List.length_nil, if_true, Bool.not_true, fNext, fPar, fC, gs2, Nat.zero_add, Nat.reduceAdd, Nat.reduceLT, and_self, fFor] at ei ⊢
        rw [ei]
        simp only [e4, outsOf]
        simp
      | some b =>
        rw [ej] at lp
        obtain ⟨t3, t5, e4⟩ := lp
        have e5 : gEq (.st (.int b)) (.st (.int N)) = some (.st (.bl (decide (some b = some N)))) := by rw [eqI]; simp
        simp only [List.set_cons_succ, List.set_cons_zero] at ei
        simp only [fSeq, fIfS, fNot, fB, fCall, fCons, fNil, fFz, fP, fPeek, fBack, e0, List.getElem?_cons_succ, List.getElem?_cons_zero, List.set_cons_succ, List.set_cons_zero, Option.map_some, OD.val, e2, e3, putBack, List.length_cons, List.length_nil, if_true, Bool.not_true, fNext, fPar, fC, gs2, Nat.zero_add, Nat.reduceAdd, Nat.reduceLT, and_self, fFor] at ei ⊢
        rw [ei]
        simp only [runM, outsOf, fSeq, fRet, fAsg, gN, fFz, fPeek, fBack, fDrop, fBin, fUn, fC, fCons, fNil, fLend, fCall, fCallK, pick, List.filterMap_cons, List.filterMap_nil, putBack, fIfS, fB, fNot, fAnd, fOr, fAndV, fOrV, fNext, fIf, fX, fLst, fTup, fMov, fPar, gs2, gs3, gT, gsCons, gsNil, fYes, gAdd_i, gLt_i, gSub_i, gDiv_i, gMod_i, gGt_i, gLe_i, gGe_i, gInt_i, gNeg_i, gAbs_i, gMax_i, gMin_i, OD.val, valL, valL_st, fItS, fFor, fLc, wipeR, fPart, fNoPart, fSl, fAppend, fExtend, fPop, fGet2, fD1, fDNew, keyD, gSetQ, gSetI, gSetD, stK_map, fItR1, fLRg, List.getElem?_cons_succ, List.getElem?_cons_zero, List.set_cons_succ, List.set_cons_zero, List.length_cons, List.length_nil, List.map_cons, List.map_nil, Option.map_some, Option.map_none, Nat.zero_add, Nat.reduceAdd, Nat.reduceLT, Nat.reduceEqDiff, and_self, big0, big1, big2, big3, big4, big5, if_true, if_false, ite_true, ite_false, Bool.not_true, Bool.not_false, Bool.true_and, Bool.false_and,e4, el, e5]
  have e0' : rho0 N_is_plan [.st (lotD ws), .st (.str (tx q)), .st d] = [some (.st (lotD ws)), some (.st (.str (tx q))), some (.st d)] := rfl
  simp only [runM, outsOf, fSeq, fRet, fAsg, gN, fFz, fPeek, fBack, fDrop, fBin, fUn, fC, fCons, fNil, fLend, fCall, fCallK, pick, List.filterMap_cons, List.filterMap_nil, putBack, fIfS, fB, fNot, fAnd, fOr, fAndV, fOrV, fNext, fIf, fX, fLst, fTup, fMov, fPar, gs2, gs3, gT, gsCons, gsNil, fYes, gAdd_i, gLt_i, gSub_i, gDiv_i, gMod_i, gGt_i, gLe_i, gGe_i, gInt_i, gNeg_i, gAbs_i, gMax_i, gMin_i, OD.val, valL, valL_st, fItS, fFor, fLc, wipeR, fPart, fNoPart, fSl, fAppend, fExtend, fPop, fGet2, fD1, fDNew, keyD, gSetQ, gSetI, gSetD, stK_map, fItR1, fLRg, List.getElem?_cons_succ, List.getElem?_cons_zero, List.set_cons_succ, List.set_cons_zero, List.length_cons, List.length_nil, List.map_cons, List.map_nil, Option.map_some, Option.map_none, Nat.zero_add, Nat.reduceAdd, Nat.reduceLT, Nat.reduceEqDiff, and_self, big0, big1, big2, big3, big4, big5, if_true, if_false, ite_true, ite_false, Bool.not_true, Bool.not_false, Bool.true_and, Bool.false_and,m_is_plan, F_is_plan, e0', e1, e6]
/-! ### the law's -/
noncomputable def LiC : Ft := (fOr (fNot (fB (fBin gIsi (fP 4) (fE (fC (.raw (.ty "tuple"))))))) (fOr (fB (fBin gNe (fE (fUn gLen (fP 4))) (fE (fC (.int 3))))) (fNot (fB (fUn gAll (fE (fLc [5] (fItS (fFz (fE (fLst (fCons (fC (.int 0)) (fCons (fC (.int 2)) fNil)))))) (gN 5) fYes (fBin gNotTrue (fE (fBin gIx (fP 4) (fP 5))) (fE (fC (.bl true)))))))))))
def LiK : Fe := (fLc [6] (fItS (fFz (fP 0))) (gN 6) fYes (fUn gRepr (fP 6)))
def LjB (C : Ft) (Kf : Fe) : Fs := (fSeq (fIfS C (fRet (fC (.bl false))) fNext) (fSeq (fIfS (fOr (fB (fBin gNotInQ (fE (fUn gRepr (fP 4))) (fE Kf))) (fB (fBin gNe (fE (fBin gIx (fP 4) (fE (fC (.int 0))))) (fP 3)))) (fRet (fC (.bl false))) fNext) (fAsg (fBin gIx (fP 4) (fE (fC (.int 2)))) (gN 3))))
/-- what is told by the first look -/
def look1 : D → Bool
  | .tup [.bl true, _, _] => true
  | .tup [_, _, .bl true] => true
  | .tup [_, _, _] => false
  | _ => true
def ntr : D → Bool
  | .bl true => false
  | _ => true
theorem notTrueI {d : D} (h : plain1 d = true) : gNotTrue (.st d) (.st (.bl true)) = some (.st (.bl (ntr d))) := by
  cases d with
  | bl b => cases b <;> rfl
  | non => rfl
  | int _ => rfl
  | str _ => rfl
  | _ => cases h
theorem all2 (a b : Bool) : gAll (.ol [.st (.bl a), .st (.bl b)]) = some (.st (.bl (a && b))) := by
  have := all_bools [a, b]
  simpa using this
theorem liC3 {x0 x1 x2 x3 : Option OD} {x y z : D} (h0 : plain1 x = true) (h2 : plain1 z = true) : LiC [x0, x1, x2, x3, some (.st (.tup [x, y, z])), none, none] = some (!(ntr x && ntr z), [x0, x1, x2, x3, some (.st (.tup [x, y, z])), none, none]) := by
  have g1 := isi_tup [x, y, z]
  have g2 : gLen (.st (.tup [x, y, z])) = some (.st (.int 3)) := rfl
  have g3 := ne33
  have g4 : gIx (.st (.tup [x, y, z])) (.st (.int 0)) = some (.st x) := rfl
  have g5 : gIx (.st (.tup [x, y, z])) (.st (.int 2)) = some (.st z) := rfl
  have n0 := notTrueI h0
  have n2 := notTrueI h2
  generalize ntr x = bx at *
  generalize ntr z = bz at *
  have e1 := compL_t (own := [5]) (tg := gN 5) (tt := fYes) (te := (fBin gNotTrue (fE (fBin gIx (fP 4) (fP 5))) (fE (fC (.bl true))))) (d := .int 0) (ds := [.int 2]) (ρ := [x0, x1, x2, x3, some (.st (.tup [x, y, z])), none, none]) (ρ1 := [x0, x1, x2, x3, some (.st (.tup [x, y, z])), some (.st (.int 0)), none]) (ρ2 := [x0, x1, x2, x3, some (.st (.tup [x, y, z])), some (.st (.int 0)), none]) (ρ3 := [x0, x1, x2, x3, some (.st (.tup [x, y, z])), some (.st (.int 0)), none]) (acc := []) (o := .st (.bl bx)) (by simp only [runM, outsOf, fSeq, fRet, fAsg, gN, fFz, fPeek, fBack, fDrop, fBin, fUn, fC, fCons, fNil, fLend, fCall, fCallK, pick, List.filterMap_cons, List.filterMap_nil, putBack, fIfS, fB, fNot, fAnd, fOr, fAndV, fOrV, fNext, fIf, fX, fLst, fTup, fMov, fPar, gs2, gs3, gT, gsCons, gsNil, fYes, gAdd_i, gLt_i, gSub_i, gDiv_i, gMod_i, gGt_i, gLe_i, gGe_i, gInt_i, gNeg_i, gAbs_i, gMax_i, gMin_i, OD.val, valL, valL_st, fItS, fFor, fLc, wipeR, fPart, fNoPart, fSl, fAppend, fExtend, fPop, fGet2, fD1, fDNew, keyD, gSetQ, gSetI, gSetD, stK_map, fItR1, fLRg, List.getElem?_cons_succ, List.getElem?_cons_zero, List.set_cons_succ, List.set_cons_zero, List.length_cons, List.length_nil, List.map_cons, List.map_nil, Option.map_some, Option.map_none, Nat.zero_add, Nat.reduceAdd, Nat.reduceLT, Nat.reduceEqDiff, and_self, big0, big1, big2, big3, big4, big5, if_true, if_false, ite_true, ite_false, Bool.not_true, Bool.not_false, Bool.true_and, Bool.false_and]) rfl (by simp only [runM, outsOf, fSeq, fRet, fAsg, gN, fFz, fPeek, fBack, fDrop, fBin, fUn, fC, fCons, fNil, fLend, fCall, fCallK, pick, List.filterMap_cons, List.filterMap_nil, putBack, fIfS, fB, fNot, fAnd, fOr, fAndV, fOrV, fNext, fIf, fX, fLst, fTup, fMov, fPar, gs2, gs3, gT, gsCons, gsNil, fYes, gAdd_i, gLt_i, gSub_i, gDiv_i, gMod_i, gGt_i, gLe_i, gGe_i, gInt_i, gNeg_i, gAbs_i, gMax_i, gMin_i, OD.val, valL, valL_st, fItS, fFor, fLc, wipeR, fPart, fNoPart, fSl, fAppend, fExtend, fPop, fGet2, fD1, fDNew, keyD, gSetQ, gSetI, gSetD, stK_map, fItR1, fLRg, List.getElem?_cons_succ, List.getElem?_cons_zero, List.set_cons_succ, List.set_cons_zero, List.length_cons, List.length_nil, List.map_cons, List.map_nil, Option.map_some, Option.map_none, Nat.zero_add, Nat.reduceAdd, Nat.reduceLT, Nat.reduceEqDiff, and_self, big0, big1, big2, big3, big4, big5, if_true, if_false, ite_true, ite_false, Bool.not_true, Bool.not_false, Bool.true_and, Bool.false_and,g4, n0]) (by decide)
  have e2 := compL_t (own := [5]) (tg := gN 5) (tt := fYes) (te := (fBin gNotTrue (fE (fBin gIx (fP 4) (fP 5))) (fE (fC (.bl true))))) (d := .int 2) (ds := []) (ρ := [x0, x1, x2, x3, some (.st (.tup [x, y, z])), none, none]) (ρ1 := [x0, x1, x2, x3, some (.st (.tup [x, y, z])), some (.st (.int 2)), none]) (ρ2 := [x0, x1, x2, x3, some (.st (.tup [x, y, z])), some (.st (.int 2)), none]) (ρ3 := [x0, x1, x2, x3, some (.st (.tup [x, y, z])), some (.st (.int 2)), none]) (acc := [.st (.bl bx)]) (o := .st (.bl bz)) (by simp only [runM, outsOf, fSeq, fRet, fAsg, gN, fFz, fPeek, fBack, fDrop, fBin, fUn, fC, fCons, fNil, fLend, fCall, fCallK, pick, List.filterMap_cons, List.filterMap_nil, putBack, fIfS, fB, fNot, fAnd, fOr, fAndV, fOrV, fNext, fIf, fX, fLst, fTup, fMov, fPar, gs2, gs3, gT, gsCons, gsNil, fYes, gAdd_i, gLt_i, gSub_i, gDiv_i, gMod_i, gGt_i, gLe_i, gGe_i, gInt_i, gNeg_i, gAbs_i, gMax_i, gMin_i, OD.val, valL, valL_st, fItS, fFor, fLc, wipeR, fPart, fNoPart, fSl, fAppend, fExtend, fPop, fGet2, fD1, fDNew, keyD, gSetQ, gSetI, gSetD, stK_map, fItR1, fLRg, List.getElem?_cons_succ, List.getElem?_cons_zero, List.set_cons_succ, List.set_cons_zero, List.length_cons, List.length_nil, List.map_cons, List.map_nil, Option.map_some, Option.map_none, Nat.zero_add, Nat.reduceAdd, Nat.reduceLT, Nat.reduceEqDiff, and_self, big0, big1, big2, big3, big4, big5, if_true, if_false, ite_true, ite_false, Bool.not_true, Bool.not_false, Bool.true_and, Bool.false_and]) rfl (by simp only [runM, outsOf, fSeq, fRet, fAsg, gN, fFz, fPeek, fBack, fDrop, fBin, fUn, fC, fCons, fNil, fLend, fCall, fCallK, pick, List.filterMap_cons, List.filterMap_nil, putBack, fIfS, fB, fNot, fAnd, fOr, fAndV, fOrV, fNext, fIf, fX, fLst, fTup, fMov, fPar, gs2, gs3, gT, gsCons, gsNil, fYes, gAdd_i, gLt_i, gSub_i, gDiv_i, gMod_i, gGt_i, gLe_i, gGe_i, gInt_i, gNeg_i, gAbs_i, gMax_i, gMin_i, OD.val, valL, valL_st, fItS, fFor, fLc, wipeR, fPart, fNoPart, fSl, fAppend, fExtend, fPop, fGet2, fD1, fDNew, keyD, gSetQ, gSetI, gSetD, stK_map, fItR1, fLRg, List.getElem?_cons_succ, List.getElem?_cons_zero, List.set_cons_succ, List.set_cons_zero, List.length_cons, List.length_nil, List.map_cons, List.map_nil, Option.map_some, Option.map_none, Nat.zero_add, Nat.reduceAdd, Nat.reduceLT, Nat.reduceEqDiff, and_self, big0, big1, big2, big3, big4, big5, if_true, if_false, ite_true, ite_false, Bool.not_true, Bool.not_false, Bool.true_and, Bool.false_and,g5, n2]) (by simp [big])
  have ew : ∀ v : Option OD, wipeR [x0, x1, x2, x3, some (.st (.tup [x, y, z])), v, none] [5] = [x0, x1, x2, x3, some (.st (.tup [x, y, z])), none, none] := fun v => by simp [wipeR]
  rw [ew, List.nil_append] at e1
  rw [ew] at e2
  have e3 : compL [5] (gN 5) fYes (fBin gNotTrue (fE (fBin gIx (fP 4) (fP 5))) (fE (fC (.bl true)))) [.int 0, .int 2] [x0, x1, x2, x3, some (.st (.tup [x, y, z])), none, none] [] = some ([.st (.bl bx), .st (.bl bz)], [x0, x1, x2, x3, some (.st (.tup [x, y, z])), none, none]) := by
    rw [e1, e2]
    rfl
  have e4 := all2 bx bz
  simp only [runM, outsOf, fSeq, fRet, fAsg, gN, fFz, fPeek, fBack, fDrop, fBin, fUn, fC, fCons, fNil, fLend, fCall, fCallK, pick, List.filterMap_cons, List.filterMap_nil, putBack, fIfS, fB, fNot, fAnd, fOr, fAndV, fOrV, fNext, fIf, fX, fLst, fTup, fMov, fPar, gs2, gs3, gT, gsCons, gsNil, fYes, gAdd_i, gLt_i, gSub_i, gDiv_i, gMod_i, gGt_i, gLe_i, gGe_i, gInt_i, gNeg_i, gAbs_i, gMax_i, gMin_i, OD.val, valL, valL_st, fItS, fFor, fLc, wipeR, fPart, fNoPart, fSl, fAppend, fExtend, fPop, fGet2, fD1, fDNew, keyD, gSetQ, gSetI, gSetD, stK_map, fItR1, fLRg, List.getElem?_cons_succ, List.getElem?_cons_zero, List.set_cons_succ, List.set_cons_zero, List.length_cons, List.length_nil, List.map_cons, List.map_nil, Option.map_some, Option.map_none, Nat.zero_add, Nat.reduceAdd, Nat.reduceLT, Nat.reduceEqDiff, and_self, big0, big1, big2, big3, big4, big5, if_true, if_false, ite_true, ite_false, Bool.not_true, Bool.not_false, Bool.true_and, Bool.false_and,LiC, g1, g2, g3, e3, e4]
theorem liC_no {x0 x1 x2 x3 : Option OD} {d : D} {n : String} (h : tyN d = some n) (hk : kitB n "tuple" = some false) : LiC [x0, x1, x2, x3, some (.st d), none, none] = some (true, [x0, x1, x2, x3, some (.st d), none, none]) := by
  have h1 := isi_not h hk
  simp only [runM, outsOf, fSeq, fRet, fAsg, gN, fFz, fPeek, fBack, fDrop, fBin, fUn, fC, fCons, fNil, fLend, fCall, fCallK, pick, List.filterMap_cons, List.filterMap_nil, putBack, fIfS, fB, fNot, fAnd, fOr, fAndV, fOrV, fNext, fIf, fX, fLst, fTup, fMov, fPar, gs2, gs3, gT, gsCons, gsNil, fYes, gAdd_i, gLt_i, gSub_i, gDiv_i, gMod_i, gGt_i, gLe_i, gGe_i, gInt_i, gNeg_i, gAbs_i, gMax_i, gMin_i, OD.val, valL, valL_st, fItS, fFor, fLc, wipeR, fPart, fNoPart, fSl, fAppend, fExtend, fPop, fGet2, fD1, fDNew, keyD, gSetQ, gSetI, gSetD, stK_map, fItR1, fLRg, List.getElem?_cons_succ, List.getElem?_cons_zero, List.set_cons_succ, List.set_cons_zero, List.length_cons, List.length_nil, List.map_cons, List.map_nil, Option.map_some, Option.map_none, Nat.zero_add, Nat.reduceAdd, Nat.reduceLT, Nat.reduceEqDiff, and_self, big0, big1, big2, big3, big4, big5, if_true, if_false, ite_true, ite_false, Bool.not_true, Bool.not_false, Bool.true_and, Bool.false_and,LiC, h1]
theorem liC_len {x0 x1 x2 x3 : Option OD} {xs : List D} (h : xs.length ≠ 3) : LiC [x0, x1, x2, x3, some (.st (.tup xs)), none, none] = some (true, [x0, x1, x2, x3, some (.st (.tup xs)), none, none]) := by
  have h1 := isi_tup xs
  have h2 : gLen (.st (.tup xs)) = some (.st (.int (xs.length : Nat))) := rfl
  have h3 : gNe (.st (.int (xs.length : Nat))) (.st (.int 3)) = some (.st (.bl true)) := by
    rw [neI]
    have : ((xs.length : Nat) : Int) ≠ 3 := by omega
    simp [this]
  generalize ((xs.length : Nat) : Int) = m at h2 h3
  simp only [runM, outsOf, fSeq, fRet, fAsg, gN, fFz, fPeek, fBack, fDrop, fBin, fUn, fC, fCons, fNil, fLend, fCall, fCallK, pick, List.filterMap_cons, List.filterMap_nil, putBack, fIfS, fB, fNot, fAnd, fOr, fAndV, fOrV, fNext, fIf, fX, fLst, fTup, fMov, fPar, gs2, gs3, gT, gsCons, gsNil, fYes, gAdd_i, gLt_i, gSub_i, gDiv_i, gMod_i, gGt_i, gLe_i, gGe_i, gInt_i, gNeg_i, gAbs_i, gMax_i, gMin_i, OD.val, valL, valL_st, fItS, fFor, fLc, wipeR, fPart, fNoPart, fSl, fAppend, fExtend, fPop, fGet2, fD1, fDNew, keyD, gSetQ, gSetI, gSetD, stK_map, fItR1, fLRg, List.getElem?_cons_succ, List.getElem?_cons_zero, List.set_cons_succ, List.set_cons_zero, List.length_cons, List.length_nil, List.map_cons, List.map_nil, Option.map_some, Option.map_none, Nat.zero_add, Nat.reduceAdd, Nat.reduceLT, Nat.reduceEqDiff, and_self, big0, big1, big2, big3, big4, big5, if_true, if_false, ite_true, ite_false, Bool.not_true, Bool.not_false, Bool.true_and, Bool.false_and,LiC, h1, h2, h3]
end Lw
set_option Elab.async false
set_option linter.all false
set_option maxRecDepth 100000
set_option maxHeartbeats 400000
namespace Lw
open PySem L2 Qy
/-- steps of a question: small places, words of letters -/
structure SLow (A : List Stp) : Prop where
  pl : ∀ t ∈ A, Pl t.1 ∧ Pl t.2.2
  wd : ∀ t ∈ A, LowS t.2.1 ∧ t.2.1.length ≤ 12
theorem sT_low {q : List Nat} {ws : List (List Nat)} (hq : QOk q) (hw : WOk ws) : SLow (sT (bT q ws)) := by
  have h := bT_ok (q := q) hw.ne hq.len hw.num
  refine ⟨fun t ht => ?_, fun t ht => ?_⟩
  · have := sT_rg h ht
    have := h.n0
    omega
  · obtain ⟨u, hu, e⟩ := sT_mem.mp ht
    obtain ⟨w, hw', p, hp, rfl⟩ := bT_mem.mp hu
    have hx : t.2.1 = tx w := by rcases e with e | e <;> rw [e]
    rw [hx]
    exact ⟨fun c hc => hw.low w hw' c (by simpa using hc), by rw [tx_len]; exact hw.len w hw'⟩
theorem SLow.itm {A : List Stp} (h : SLow A) {s : Stp} (hs : s ∈ A) : Itm (stp s) := .stp (h.pl s hs).1 ⟨(h.wd s hs).1, by have := (h.wd s hs).2; omega⟩ (h.pl s hs).2
abbrev shs (A : List Stp) : List Str := A.map fun s => (pS s).shown
theorem shown_in {A : List Stp} (hA : SLow A) {x y z : PyData} (h1 : 44 ∉ cs x.shown) (h2 : 44 ∉ cs y.shown) (h : PyData.shown (.tuple [x, y, z]) ∈ shs A) :
    ∃ s ∈ A, x.shown = PyData.shown (.int s.1) ∧ y.shown = PyData.shown (.str s.2.1) ∧ z.shown = PyData.shown (.int s.2.2) := by
  obtain ⟨s, hs, e⟩ := List.mem_map.mp h
  obtain ⟨e1, e2, e3⟩ := inj3 h1 h2 (int_no (hA.pl s hs).1.1 (hA.pl s hs).1.2) (word_no (hA.wd s hs).1) e.symm
  exact ⟨s, hs, e1, e2, e3⟩
/-- what is told by looking at the texts -/
theorem shown_stp {A : List Stp} (hA : SLow A) {i j : Int} {w : Str} (hi : Pl i) (hw : Wd w) (hj : Pl j) : (pS (i, w, j)).shown ∈ shs A ↔ (i, w, j) ∈ A := by
  constructor
  · intro h
    obtain ⟨s, hs, e1, e2, e3⟩ := shown_in hA (int_no hi.1 hi.2) (word_no hw.1) h
    have g1 := int_inj hi.1 hi.2 (hA.pl s hs).1.1 (hA.pl s hs).1.2 e1
    have g2 := word_inj hw.1 (hA.wd s hs).1 e2
    have g3 := int_inj hj.1 hj.2 (hA.pl s hs).2.1 (hA.pl s hs).2.2 e3
    rw [g1, g2, g3]
    exact hs
  · exact fun h => List.mem_map.mpr ⟨_, h, rfl⟩
theorem reprI {x : D} {P : PyData} (hp : x.py = some P) (h : Rep 200 2 P) : gRepr (.st x) = some (.st (.str P.shown)) := repr_rep (o := .st x) hp h (by omega) (by omega)
theorem liK_ok {A : List Stp} (hA : SLow A) (hn : A.length ≤ 1000) {x1 x2 x3 x4 : Option OD} : LiK [some (.st (.lst (sD A))), x1, x2, x3, x4, none, none] = some (.ol (((shs A).map .str).map .st), [some (.st (.lst (sD A))), x1, x2, x3, x4, none, none]) := by
  have e := compL_pure (own := [6]) (tg := gN 6) (tt := fYes) (te := (fUn gRepr (fP 6))) (ρ0 := [some (.st (.lst (sD A))), x1, x2, x3, x4, none, none]) (p := fun _ => true) (g := fun d => .st (.str (pyD d).shown)) (ds := sD A) (acc := []) (by
      intro d hd
      obtain ⟨s, hs, rfl⟩ := List.mem_map.mp hd
      obtain ⟨P, hP, hR⟩ := (hA.itm hs).py
      have hr := reprI hP hR
      have hPe : pyD (stp s) = P := by
        unfold pyD
        rw [hP]
        rfl
      refine ⟨[some (.st (.lst (sD A))), x1, x2, x3, x4, none, some (.st (stp s))], [some (.st (.lst (sD A))), x1, x2, x3, x4, none, some (.st (stp s))], by simp only [runM, outsOf, fSeq, fRet, fAsg, gN, fFz, fPeek, fBack, fDrop, fBin, fUn, fC, fCons, fNil, fLend, fCall, fCallK, pick, List.filterMap_cons, List.filterMap_nil, putBack, fIfS, fB, fNot, fAnd, fOr, fAndV, fOrV, fNext, fIf, fX, fLst, fTup, fMov, fPar, gs2, gs3, gT, gsCons, gsNil, fYes, gAdd_i, gLt_i, gSub_i, gDiv_i, gMod_i, gGt_i, gLe_i, gGe_i, gInt_i, gNeg_i, gAbs_i, gMax_i, gMin_i, OD.val, valL, valL_st, fItS, fFor, fLc, wipeR, fPart, fNoPart, fSl, fAppend, fExtend, fPop, fGet2, fD1, fDNew, keyD, gSetQ, gSetI, gSetD, stK_map, fItR1, fLRg, List.getElem?_cons_succ, List.getElem?_cons_zero, List.set_cons_succ, List.set_cons_zero, List.length_cons, List.length_nil, List.map_cons, List.map_nil, Option.map_some, Option.map_none, Nat.zero_add, Nat.reduceAdd, Nat.reduceLT, Nat.reduceEqDiff, and_self, big0, big1, big2, big3, big4, big5, if_true, if_false, ite_true, ite_false, Bool.not_true, Bool.not_false, Bool.true_and, Bool.false_and], rfl, (fun z => nomatch z), fun _ => ⟨[some (.st (.lst (sD A))), x1, x2, x3, x4, none, some (.st (stp s))], ?_, by simp [wipeR]⟩⟩
      rw [hPe]
      simp only [runM, outsOf, fSeq, fRet, fAsg, gN, fFz, fPeek, fBack, fDrop, fBin, fUn, fC, fCons, fNil, fLend, fCall, fCallK, pick, List.filterMap_cons, List.filterMap_nil, putBack, fIfS, fB, fNot, fAnd, fOr, fAndV, fOrV, fNext, fIf, fX, fLst, fTup, fMov, fPar, gs2, gs3, gT, gsCons, gsNil, fYes, gAdd_i, gLt_i, gSub_i, gDiv_i, gMod_i, gGt_i, gLe_i, gGe_i, gInt_i, gNeg_i, gAbs_i, gMax_i, gMin_i, OD.val, valL, valL_st, fItS, fFor, fLc, wipeR, fPart, fNoPart, fSl, fAppend, fExtend, fPop, fGet2, fD1, fDNew, keyD, gSetQ, gSetI, gSetD, stK_map, fItR1, fLRg, List.getElem?_cons_succ, List.getElem?_cons_zero, List.set_cons_succ, List.set_cons_zero, List.length_cons, List.length_nil, List.map_cons, List.map_nil, Option.map_some, Option.map_none, Nat.zero_add, Nat.reduceAdd, Nat.reduceLT, Nat.reduceEqDiff, and_self, big0, big1, big2, big3, big4, big5, if_true, if_false, ite_true, ite_false, Bool.not_true, Bool.not_false, Bool.true_and, Bool.false_and,hr]) (by simp [big]; omega)
  rw [List.nil_append, List.filter_eq_self.mpr (fun _ _ => rfl)] at e
  have ee : (sD A).map (fun d => OD.st (.str (pyD d).shown)) = ((shs A).map .str).map .st := by
    simp only [sD, shs, List.map_map]
    rfl
  rw [ee] at e
  simp only [runM, outsOf, fSeq, fRet, fAsg, gN, fFz, fPeek, fBack, fDrop, fBin, fUn, fC, fCons, fNil, fLend, fCall, fCallK, pick, List.filterMap_cons, List.filterMap_nil, putBack, fIfS, fB, fNot, fAnd, fOr, fAndV, fOrV, fNext, fIf, fX, fLst, fTup, fMov, fPar, gs2, gs3, gT, gsCons, gsNil, fYes, gAdd_i, gLt_i, gSub_i, gDiv_i, gMod_i, gGt_i, gLe_i, gGe_i, gInt_i, gNeg_i, gAbs_i, gMax_i, gMin_i, OD.val, valL, valL_st, fItS, fFor, fLc, wipeR, fPart, fNoPart, fSl, fAppend, fExtend, fPop, fGet2, fD1, fDNew, keyD, gSetQ, gSetI, gSetD, stK_map, fItR1, fLRg, List.getElem?_cons_succ, List.getElem?_cons_zero, List.set_cons_succ, List.set_cons_zero, List.length_cons, List.length_nil, List.map_cons, List.map_nil, Option.map_some, Option.map_none, Nat.zero_add, Nat.reduceAdd, Nat.reduceLT, Nat.reduceEqDiff, and_self, big0, big1, big2, big3, big4, big5, if_true, if_false, ite_true, ite_false, Bool.not_true, Bool.not_false, Bool.true_and, Bool.false_and,LiK, e]
theorem notIn_sh {A : List Stp} {z : Str} : gNotInQ (.st (.str z)) (.ol (((shs A).map .str).map .st)) = some (.st (.bl (!decide (z ∈ shs A)))) := notIn_str (.inl (rd_ol _))
/-- the law's look at one, the first look given -/
theorem ljB_gen {C : Ft} {Kf : Fe} {S x : D} {Z : OD} {x1 x2 : Option OD} {h : Int} {c : Bool} (hC : C [some (.st S), x1, x2, some (.st (.int h)), some (.st x), none, none] = some (c, [some (.st S), x1, x2, some (.st (.int h)), some (.st x), none, none]))
    (hK : Kf [some (.st S), x1, x2, some (.st (.int h)), some (.st x), none, none] = some (Z, [some (.st S), x1, x2, some (.st (.int h)), some (.st x), none, none]))
    {r : Str} {nin : Bool} (h1 : c = false → gRepr (.st x) = some (.st (.str r)) ∧ gNotInQ (.st (.str r)) Z = some (.st (.bl nin))) {a b : Int} {ne : Bool}
    (h2 : c = false → nin = false → gIx (.st x) (.st (.int 0)) = some (.st (.int a)) ∧ gNe (.st (.int a)) (.st (.int h)) = some (.st (.bl ne)) ∧ gIx (.st x) (.st (.int 2)) = some (.st (.int b))) :
    LjB C Kf [some (.st S), x1, x2, some (.st (.int h)), some (.st x), none, none] = if c = false ∧ nin = false ∧ ne = false then some (.nx [some (.st S), x1, x2, some (.st (.int b)), some (.st x), none, none]) else some (.rt (.st (.bl false)) [some (.st S), x1, x2, some (.st (.int h)), some (.st x), none, none]) := by
  cases c with
  | true => simp only [runM, outsOf, fSeq, fRet, fAsg, gN, fFz, fPeek, fBack, fDrop, fBin, fUn, fC, fCons, fNil, fLend, fCall, fCallK, pick, List.filterMap_cons, List.filterMap_nil, putBack, fIfS, fB, fNot, fAnd, fOr, fAndV, fOrV, fNext, fIf, fX, fLst, fTup, fMov, fPar, gs2, gs3, gT, gsCons, gsNil, fYes, gAdd_i, gLt_i, gSub_i, gDiv_i, gMod_i, gGt_i, gLe_i, gGe_i, gInt_i, gNeg_i, gAbs_i, gMax_i, gMin_i, OD.val, valL, valL_st, fItS, fFor, fLc, wipeR, fPart, fNoPart, fSl, fAppend, fExtend, fPop, fGet2, fD1, fDNew, keyD, gSetQ, gSetI, gSetD, stK_map, fItR1, fLRg, List.getElem?_cons_succ, List.getElem?_cons_zero, List.set_cons_succ, List.set_cons_zero, List.length_cons, List.length_nil, List.map_cons, List.map_nil, Option.map_some, Option.map_none, Nat.zero_add, Nat.reduceAdd, Nat.reduceLT, Nat.reduceEqDiff, and_self, big0, big1, big2, big3, big4, big5, if_true, if_false, ite_true, ite_false, Bool.not_true, Bool.not_false, Bool.true_and, Bool.false_and,LjB, hC]; simp
  | false =>
    obtain ⟨g1, g2⟩ := h1 rfl
    cases nin with
    | true => simp only [runM, outsOf, fSeq, fRet, fAsg, gN, fFz, fPeek, fBack, fDrop, fBin, fUn, fC, fCons, fNil, fLend, fCall, fCallK, pick, List.filterMap_cons, List.filterMap_nil, putBack, fIfS, fB, fNot, fAnd, fOr, fAndV, fOrV, fNext, fIf, fX, fLst, fTup, fMov, fPar, gs2, gs3, gT, gsCons, gsNil, fYes, gAdd_i, gLt_i, gSub_i, gDiv_i, gMod_i, gGt_i, gLe_i, gGe_i, gInt_i, gNeg_i, gAbs_i, gMax_i, gMin_i, OD.val, valL, valL_st, fItS, fFor, fLc, wipeR, fPart, fNoPart, fSl, fAppend, fExtend, fPop, fGet2, fD1, fDNew, keyD, gSetQ, gSetI, gSetD, stK_map, fItR1, fLRg, List.getElem?_cons_succ, List.getElem?_cons_zero, List.set_cons_succ, List.set_cons_zero, List.length_cons, List.length_nil, List.map_cons, List.map_nil, Option.map_some, Option.map_none, Nat.zero_add, Nat.reduceAdd, Nat.reduceLT, Nat.reduceEqDiff, and_self, big0, big1, big2, big3, big4, big5, if_true, if_false, ite_true, ite_false, Bool.not_true, Bool.not_false, Bool.true_and, Bool.false_and,LjB, hC, g1, hK, g2]; simp
    | false =>
      obtain ⟨g3, g4, g5⟩ := h2 rfl rfl
      cases ne with
      | true => simp only [runM, outsOf, fSeq, fRet, fAsg, gN, fFz, fPeek, fBack, fDrop, fBin, fUn, fC, fCons, fNil, fLend, fCall, fCallK, pick, List.filterMap_cons, List.filterMap_nil, putBack, fIfS, fB, fNot, fAnd, fOr, fAndV, fOrV, fNext, fIf, fX, fLst, fTup, fMov, fPar, gs2, gs3, gT, gsCons, gsNil, fYes, gAdd_i, gLt_i, gSub_i, gDiv_i, gMod_i, gGt_i, gLe_i, gGe_i, gInt_i, gNeg_i, gAbs_i, gMax_i, gMin_i, OD.val, valL, valL_st, fItS, fFor, fLc, wipeR, fPart, fNoPart, fSl, fAppend, fExtend, fPop, fGet2, fD1, fDNew, keyD, gSetQ, gSetI, gSetD, stK_map, fItR1, fLRg, List.getElem?_cons_succ, List.getElem?_cons_zero, List.set_cons_succ, List.set_cons_zero, List.length_cons, List.length_nil, List.map_cons, List.map_nil, Option.map_some, Option.map_none, Nat.zero_add, Nat.reduceAdd, Nat.reduceLT, Nat.reduceEqDiff, and_self, big0, big1, big2, big3, big4, big5, if_true, if_false, ite_true, ite_false, Bool.not_true, Bool.not_false, Bool.true_and, Bool.false_and,LjB, hC, g1, hK, g2, g3, g4]; simp
      | false => simp only [runM, outsOf, fSeq, fRet, fAsg, gN, fFz, fPeek, fBack, fDrop, fBin, fUn, fC, fCons, fNil, fLend, fCall, fCallK, pick, List.filterMap_cons, List.filterMap_nil, putBack, fIfS, fB, fNot, fAnd, fOr, fAndV, fOrV, fNext, fIf, fX, fLst, fTup, fMov, fPar, gs2, gs3, gT, gsCons, gsNil, fYes, gAdd_i, gLt_i, gSub_i, gDiv_i, gMod_i, gGt_i, gLe_i, gGe_i, gInt_i, gNeg_i, gAbs_i, gMax_i, gMin_i, OD.val, valL, valL_st, fItS, fFor, fLc, wipeR, fPart, fNoPart, fSl, fAppend, fExtend, fPop, fGet2, fD1, fDNew, keyD, gSetQ, gSetI, gSetD, stK_map, fItR1, fLRg, List.getElem?_cons_succ, List.getElem?_cons_zero, List.set_cons_succ, List.set_cons_zero, List.length_cons, List.length_nil, List.map_cons, List.map_nil, Option.map_some, Option.map_none, Nat.zero_add, Nat.reduceAdd, Nat.reduceLT, Nat.reduceEqDiff, and_self, big0, big1, big2, big3, big4, big5, if_true, if_false, ite_true, ite_false, Bool.not_true, Bool.not_false, Bool.true_and, Bool.false_and,LjB, hC, g1, hK, g2, g3, g4, g5]
theorem ljB_ok {A : List Stp} (hA : SLow A) (hn : A.length ≤ 1000) {x1 x2 : Option OD} {x : D} (hx : Itm x) {h : Int} :
    LjB LiC LiK [some (.st (.lst (sD A))), x1, x2, some (.st (.int h)), some (.st x), none, none] = match jd A h x with
      | some b => some (.nx [some (.st (.lst (sD A))), x1, x2, some (.st (.int b)), some (.st x), none, none])
      | none => some (.rt (.st (.bl false)) [some (.st (.lst (sD A))), x1, x2, some (.st (.int h)), some (.st x), none, none]) := by
  have hK := liK_ok hA hn (x1 := x1) (x2 := x2) (x3 := some (.st (.int h))) (x4 := some (.st x))
  obtain ⟨P, hP, hR⟩ := hx.py
  have hr := reprI hP hR
  have hni := notIn_sh (A := A) (z := P.shown)
  -- a thing that the first look, or the texts, refuse
  have out1 : LiC [some (.st (.lst (sD A))), x1, x2, some (.st (.int h)), some (.st x), none, none] = some (true, [some (.st (.lst (sD A))), x1, x2, some (.st (.int h)), some (.st x), none, none]) → LjB LiC LiK [some (.st (.lst (sD A))), x1, x2, some (.st (.int h)), some (.st x), none, none] = some (.rt (.st (.bl false)) [some (.st (.lst (sD A))), x1, x2, some (.st (.int h)), some (.st x), none, none]) := fun hC => by
    rw [ljB_gen (r := "") (nin := true) (a := 0) (b := 0) (ne := true) hC hK (fun z => nomatch z) (fun z => nomatch z)]
    simp
  have out2 : LiC [some (.st (.lst (sD A))), x1, x2, some (.st (.int h)), some (.st x), none, none] = some (false, [some (.st (.lst (sD A))), x1, x2, some (.st (.int h)), some (.st x), none, none]) → P.shown ∉ shs A → LjB LiC LiK [some (.st (.lst (sD A))), x1, x2, some (.st (.int h)), some (.st x), none, none] = some (.rt (.st (.bl false)) [some (.st (.lst (sD A))), x1, x2, some (.st (.int h)), some (.st x), none, none]) := fun hC hno => by
    have hni' : gNotInQ (.st (.str P.shown)) (.ol (((shs A).map .str).map .st)) = some (.st (.bl true)) := by rw [hni]; simp [hno]
    rw [ljB_gen (r := P.shown) (nin := true) (a := 0) (b := 0) (ne := true) hC hK (fun _ => ⟨hr, hni'⟩) (fun _ z => nomatch z)]
    simp
  cases hx with
  | @stp i j w a b c =>
    cases hP
    have hC := liC3 (x0 := some (.st (.lst (sD A)))) (x1 := x1) (x2 := x2) (x3 := some (.st (.int h))) (x := .int i) (y := .str w) (z := .int j) rfl rfl
    have hm := shown_stp hA a b c
    have hni' : gNotInQ (.st (.str (PyData.shown (.tuple [.int i, .str w, .int j])))) (.ol (((shs A).map .str).map .st)) = some (.st (.bl (!decide ((i, w, j) ∈ A)))) := by
      rw [hni]
      congr 4
      exact decide_eq_decide.mpr hm
    rw [ljB_gen (c := false) (r := _) (nin := !decide ((i, w, j) ∈ A)) (a := i) (b := j) (ne := !decide (i = h)) hC hK (fun _ => ⟨hr, hni'⟩) (fun _ _ => ⟨rfl, neI i h, rfl⟩)]
    by_cases h1 : (i, w, j) ∈ A
    · by_cases h2 : i = h
      · subst h2
        simp [jd, h1]
      · simp [jd, h1, h2]
    · simp [jd, h1]
  | @bl0 b j w hw hj =>
    cases hP
    cases b with
    | true => exact out1 (liC3 rfl rfl)
    | false =>
      refine out2 (liC3 rfl rfl) fun hin => ?_
      obtain ⟨s, hs, e1, _⟩ := shown_in hA false_no (word_no hw.1) hin
      exact false_ne (hA.pl s hs).1.1 (hA.pl s hs).1.2 e1
  | bl2 a b => exact out1 (liC3 rfl rfl)
  | non2 a b =>
    cases hP
    refine out2 (liC3 rfl rfl) fun hin => ?_
    obtain ⟨s, hs, _, _, e3⟩ := shown_in hA (int_no a.1 a.2) (word_no b.1) hin
    exact none_ne (hA.pl s hs).2.1 (hA.pl s hs).2.2 e3
  | str2 a b c =>
    cases hP
    refine out2 (liC3 rfl rfl) fun hin => ?_
    obtain ⟨s, hs, _, _, e3⟩ := shown_in hA (int_no a.1 a.2) (word_no b.1) hin
    exact str_ne_int (hA.pl s hs).2.1 (hA.pl s hs).2.2 e3
  | lst1 a b c =>
    cases hP
    refine out2 (liC3 rfl rfl) fun hin => ?_
    obtain ⟨s, hs, _, e2, _⟩ := shown_in hA (int_no a.1 a.2) (list_no b.1) hin
    exact list_ne_str e2
  | two a b => exact out1 (liC_len (by simp))
  | four a b c => exact out1 (liC_len (by simp))
  | nil => exact out1 (liC_len (by simp))
  | non => exact out1 (liC_no rfl (by decide +kernel))
  | int0 => exact out1 (liC_no rfl (by decide +kernel))
  | str _ => exact out1 (liC_no rfl (by decide +kernel))
  | lst3 a b c => exact out1 (liC_no rfl (by decide +kernel))
  | lst0 => exact out1 (liC_no rfl (by decide +kernel))
theorem ljL_ok {A : List Stp} (hA : SLow A) (hn : A.length ≤ 1000) {x1 x2 : Option OD} : ∀ (xs : List D) (h : Int) (s4 : Option OD), (∀ x ∈ xs, Itm x) →
    match jdL A xs h with
    | some b => ∃ t4, loopF (gN 4) (LjB LiC LiK) xs [some (.st (.lst (sD A))), x1, x2, some (.st (.int h)), s4, none, none] = some (.nx [some (.st (.lst (sD A))), x1, x2, some (.st (.int b)), t4, none, none])
    | none => ∃ t3 t4, loopF (gN 4) (LjB LiC LiK) xs [some (.st (.lst (sD A))), x1, x2, some (.st (.int h)), s4, none, none] = some (.rt (.st (.bl false)) [some (.st (.lst (sD A))), x1, x2, t3, t4, none, none])
  | [], h, s4, _ => ⟨s4, rfl⟩
  | x :: xs, h, s4, hx => by
    have e1 := ljB_ok hA hn (x1 := x1) (x2 := x2) (hx x List.mem_cons_self) (h := h)
    have g1 : gN 4 (.st x) [some (.st (.lst (sD A))), x1, x2, some (.st (.int h)), s4, none, none] = some [some (.st (.lst (sD A))), x1, x2, some (.st (.int h)), some (.st x), none, none] := by simp only [runM, outsOf, fSeq, fRet, fAsg, gN, fFz, fPeek, fBack, fDrop, fBin, fUn, fC, fCons, fNil, fLend, fCall, fCallK, pick, List.filterMap_cons, List.filterMap_nil, putBack, fIfS, fB, fNot, fAnd, fOr, fAndV, fOrV, fNext, fIf, fX, fLst, fTup, fMov, fPar, gs2, gs3, gT, gsCons, gsNil, fYes, gAdd_i, gLt_i, gSub_i, gDiv_i, gMod_i, gGt_i, gLe_i, gGe_i, gInt_i, gNeg_i, gAbs_i, gMax_i, gMin_i, OD.val, valL, valL_st, fItS, fFor, fLc, wipeR, fPart, fNoPart, fSl, fAppend, fExtend, fPop, fGet2, fD1, fDNew, keyD, gSetQ, gSetI, gSetD, stK_map, fItR1, fLRg, List.getElem?_cons_succ, List.getElem?_cons_zero, List.set_cons_succ, List.set_cons_zero, List.length_cons, List.length_nil, List.map_cons, List.map_nil, Option.map_some, Option.map_none, Nat.zero_add, Nat.reduceAdd, Nat.reduceLT, Nat.reduceEqDiff, and_self, big0, big1, big2, big3, big4, big5, if_true, if_false, ite_true, ite_false, Bool.not_true, Bool.not_false, Bool.true_and, Bool.false_and]
    unfold jdL
    cases ej : jd A h x with
    | none =>
      rw [ej] at e1
      simp only [Option.bind_none]
      refine ⟨some (.st (.int h)), some (.st x), ?_⟩
      unfold loopF
      simp only [g1, e1]
    | some b =>
      rw [ej] at e1
      simp only [Option.bind_some]
      have ih := ljL_ok hA hn (x1 := x1) (x2 := x2) xs b (some (.st x)) (fun y hy => hx y (List.mem_cons_of_mem _ hy))
      cases ejl : jdL A xs b with
      | none =>
        rw [ejl] at ih
        obtain ⟨t3, t4, ih⟩ := ih
        refine ⟨t3, t4, ?_⟩
        unfold loopF
        simp only [g1, e1]
        exact ih
      | some c =>
        rw [ejl] at ih
        obtain ⟨t4, ih⟩ := ih
        refine ⟨t4, ?_⟩
        unfold loopF
        simp only [g1, e1]
        exact ih
theorem law_planI {A : List Stp} (hA : SLow A) (hn : A.length ≤ 1000) {N : Int} {d : D} (h : Thg d) : m_law_is_plan [.st (.lst (sD A)), .st (.int N), .st d] = some (.st (.bl (judge A N d)), [none, none, none]) := by
  have e2 := sqI h
  obtain ⟨hi, _⟩ := h.itms
  have e0 : rho0 N_law_is_plan [.st (.lst (sD A)), .st (.int N), .st d] = [some (.st (.lst (sD A))), some (.st (.int N)), some (.st d), none, none, none, none] := rfl
  have eF : F_law_is_plan = (fSeq (fIfS (fNot (fB (fBin gIsi2K (fP 2) (fE (fTup (fCons (fC (.raw (.ty "list"))) (fCons (fC (.raw (.ty "tuple"))) fNil))))))) (fRet (fC (.bl false))) fNext) (fSeq (fAsg (fC (.int 0)) (gN 3)) (fSeq (fFor (fItS (fFz (fP 2))) (gN 4) (LjB LiC LiK)) (fRet (fBin gEq (fP 3) (fP 1)))))) := rfl
  rw [m_law_is_plan, runM, eF]
  cases hs : isSq d with
  | false =>
    rw [hs] at e2
    rw [judge_no hs]
    simp only [runM, outsOf, fSeq, fRet, fAsg, gN, fFz, fPeek, fBack, fDrop, fBin, fUn, fC, fCons, fNil, fLend, fCall, fCallK, pick, List.filterMap_cons, List.filterMap_nil, putBack, fIfS, fB, fNot, fAnd, fOr, fAndV, fOrV, fNext, fIf, fX, fLst, fTup, fMov, fPar, gs2, gs3, gT, gsCons, gsNil, fYes, gAdd_i, gLt_i, gSub_i, gDiv_i, gMod_i, gGt_i, gLe_i, gGe_i, gInt_i, gNeg_i, gAbs_i, gMax_i, gMin_i, OD.val, valL, valL_st, fItS, fFor, fLc, wipeR, fPart, fNoPart, fSl, fAppend, fExtend, fPop, fGet2, fD1, fDNew, keyD, gSetQ, gSetI, gSetD, stK_map, fItR1, fLRg, List.getElem?_cons_succ, List.getElem?_cons_zero, List.set_cons_succ, List.set_cons_zero, List.length_cons, List.length_nil, List.map_cons, List.map_nil, Option.map_some, Option.map_none, Nat.zero_add, Nat.reduceAdd, Nat.reduceLT, Nat.reduceEqDiff, and_self, big0, big1, big2, big3, big4, big5, if_true, if_false, ite_true, ite_false, Bool.not_true, Bool.not_false, Bool.true_and, Bool.false_and,e0, e2]
  | true =>
    rw [hs] at e2
    rw [judge_sq hs]
    have ei := itS hs (ρ := [some (.st (.lst (sD A))), some (.st (.int N)), some (.st d), some (.st (.int 0)), none, none, none]) rfl
    have lp := ljL_ok hA hn (x1 := some (.st (.int N))) (x2 := some (.st d)) (itmsOf d) 0 none hi
    generalize itmsOf d = xs at *
    generalize LjB LiC LiK = body at *
    simp only [List.set_cons_succ, List.set_cons_zero] at ei
    have e7 : fFor (fItS (fFz (fP 2))) (gN 4) body [some (.st (.lst (sD A))), some (.st (.int N)), some (.st d), some (.st (.int 0)), none, none, none] = loopF (gN 4) body xs [some (.st (.lst (sD A))), some (.st (.int N)), some (.st d), some (.st (.int 0)), none, none, none] := by
      unfold fFor
      rw [ei]
    cases ej : jdL A xs 0 with
    | none =>
      rw [ej] at lp
      obtain ⟨t3, t4, e4⟩ := lp
      rw [e4] at e7
      have e8 : fIfS (fNot (fB (fBin gIsi2K (fP 2) (fE (fTup (fCons (fC (.raw (.ty "list"))) (fCons (fC (.raw (.ty "tuple"))) fNil))))))) (fRet (fC (.bl false))) fNext [some (.st (.lst (sD A))), some (.st (.int N)), some (.st d), none, none, none, none] = some (.nx [some (.st (.lst (sD A))), some (.st (.int N)), some (.st d), none, none, none, none]) := by simp only [runM, outsOf, fSeq, fRet, fAsg, gN, fFz, fPeek, fBack, fDrop, fBin, fUn, fC, fCons, fNil, fLend, fCall, fCallK, pick, List.filterMap_cons, List.filterMap_nil, putBack, fIfS, fB, fNot, fAnd, fOr, fAndV, fOrV, fNext, fIf, fX, fLst, fTup, fMov, fPar, gs2, gs3, gT, gsCons, gsNil, fYes, gAdd_i, gLt_i, gSub_i, gDiv_i, gMod_i, gGt_i, gLe_i, gGe_i, gInt_i, gNeg_i, gAbs_i, gMax_i, gMin_i, OD.val, valL, valL_st, fItS, fFor, fLc, wipeR, fPart, fNoPart, fSl, fAppend, fExtend, fPop, fGet2, fD1, fDNew, keyD, gSetQ, gSetI, gSetD, stK_map, fItR1, fLRg, List.getElem?_cons_succ, List.getElem?_cons_zero, List.set_cons_succ, List.set_cons_zero, List.length_cons, List.length_nil, List.map_cons, List.map_nil, Option.map_some, Option.map_none, Nat.zero_add, Nat.reduceAdd, Nat.reduceLT, Nat.reduceEqDiff, and_self, big0, big1, big2, big3, big4, big5, if_true, if_false, ite_true, ite_false, Bool.not_true, Bool.not_false, Bool.true_and, Bool.false_and,e2]
      have e9 : fAsg (fC (.int 0)) (gN 3) [some (.st (.lst (sD A))), some (.st (.int N)), some (.st d), none, none, none, none] = some (.nx [some (.st (.lst (sD A))), some (.st (.int N)), some (.st d), some (.st (.int 0)), none, none, none]) := by simp only [runM, outsOf, fSeq, fRet, fAsg, gN, fFz, fPeek, fBack, fDrop, fBin, fUn, fC, fCons, fNil, fLend, fCall, fCallK, pick, List.filterMap_cons, List.filterMap_nil, putBack, fIfS, fB, fNot, fAnd, fOr, fAndV, fOrV, fNext, fIf, fX, fLst, fTup, fMov, fPar, gs2, gs3, gT, gsCons, gsNil, fYes, gAdd_i, gLt_i, gSub_i, gDiv_i, gMod_i, gGt_i, gLe_i, gGe_i, gInt_i, gNeg_i, gAbs_i, gMax_i, gMin_i, OD.val, valL, valL_st, fItS, fFor, fLc, wipeR, fPart, fNoPart, fSl, fAppend, fExtend, fPop, fGet2, fD1, fDNew, keyD, gSetQ, gSetI, gSetD, stK_map, fItR1, fLRg, List.getElem?_cons_succ, List.getElem?_cons_zero, List.set_cons_succ, List.set_cons_zero, List.length_cons, List.length_nil, List.map_cons, List.map_nil, Option.map_some, Option.map_none, Nat.zero_add, Nat.reduceAdd, Nat.reduceLT, Nat.reduceEqDiff, and_self, big0, big1, big2, big3, big4, big5, if_true, if_false, ite_true, ite_false, Bool.not_true, Bool.not_false, Bool.true_and, Bool.false_and]
      simp only [fSeq, e0, e8, e9, e7, outsOf]
      simp
    | some b =>
      rw [ej] at lp
      obtain ⟨t4, e4⟩ := lp
      rw [e4] at e7
      have e5 : gEq (.st (.int b)) (.st (.int N)) = some (.st (.bl (decide (some b = some N)))) := by rw [eqI]; simp
      have e8 : fIfS (fNot (fB (fBin gIsi2K (fP 2) (fE (fTup (fCons (fC (.raw (.ty "list"))) (fCons (fC (.raw (.ty "tuple"))) fNil))))))) (fRet (fC (.bl false))) fNext [some (.st (.lst (sD A))), some (.st (.int N)), some (.st d), none, none, none, none] = some (.nx [some (.st (.lst (sD A))), some (.st (.int N)), some (.st d), none, none, none, none]) := by simp only [runM, outsOf, fSeq, fRet, fAsg, gN, fFz, fPeek, fBack, fDrop, fBin, fUn, fC, fCons, fNil, fLend, fCall, fCallK, pick, List.filterMap_cons, List.filterMap_nil, putBack, fIfS, fB, fNot, fAnd, fOr, fAndV, fOrV, fNext, fIf, fX, fLst, fTup, fMov, fPar, gs2, gs3, gT, gsCons, gsNil, fYes, gAdd_i, gLt_i, gSub_i, gDiv_i, gMod_i, gGt_i, gLe_i, gGe_i, gInt_i, gNeg_i, gAbs_i, gMax_i, gMin_i, OD.val, valL, valL_st, fItS, fFor, fLc, wipeR, fPart, fNoPart, fSl, fAppend, fExtend, fPop, fGet2, fD1, fDNew, keyD, gSetQ, gSetI, gSetD, stK_map, fItR1, fLRg, List.getElem?_cons_succ, List.getElem?_cons_zero, List.set_cons_succ, List.set_cons_zero, List.length_cons, List.length_nil, List.map_cons, List.map_nil, Option.map_some, Option.map_none, Nat.zero_add, Nat.reduceAdd, Nat.reduceLT, Nat.reduceEqDiff, and_self, big0, big1, big2, big3, big4, big5, if_true, if_false, ite_true, ite_false, Bool.not_true, Bool.not_false, Bool.true_and, Bool.false_and,e2]
      have e9 : fAsg (fC (.int 0)) (gN 3) [some (.st (.lst (sD A))), some (.st (.int N)), some (.st d), none, none, none, none] = some (.nx [some (.st (.lst (sD A))), some (.st (.int N)), some (.st d), some (.st (.int 0)), none, none, none]) := by simp only [runM, outsOf, fSeq, fRet, fAsg, gN, fFz, fPeek, fBack, fDrop, fBin, fUn, fC, fCons, fNil, fLend, fCall, fCallK, pick, List.filterMap_cons, List.filterMap_nil, putBack, fIfS, fB, fNot, fAnd, fOr, fAndV, fOrV, fNext, fIf, fX, fLst, fTup, fMov, fPar, gs2, gs3, gT, gsCons, gsNil, fYes, gAdd_i, gLt_i, gSub_i, gDiv_i, gMod_i, gGt_i, gLe_i, gGe_i, gInt_i, gNeg_i, gAbs_i, gMax_i, gMin_i, OD.val, valL, valL_st, fItS, fFor, fLc, wipeR, fPart, fNoPart, fSl, fAppend, fExtend, fPop, fGet2, fD1, fDNew, keyD, gSetQ, gSetI, gSetD, stK_map, fItR1, fLRg, List.getElem?_cons_succ, List.getElem?_cons_zero, List.set_cons_succ, List.set_cons_zero, List.length_cons, List.length_nil, List.map_cons, List.map_nil, Option.map_some, Option.map_none, Nat.zero_add, Nat.reduceAdd, Nat.reduceLT, Nat.reduceEqDiff, and_self, big0, big1, big2, big3, big4, big5, if_true, if_false, ite_true, ite_false, Bool.not_true, Bool.not_false, Bool.true_and, Bool.false_and]
      have e10 : fRet (fBin gEq (fP 3) (fP 1)) [some (.st (.lst (sD A))), some (.st (.int N)), some (.st d), some (.st (.int b)), t4, none, none] = some (.rt (.st (.bl (decide (some b = some N)))) [some (.st (.lst (sD A))), some (.st (.int N)), some (.st d), some (.st (.int b)), t4, none, none]) := by simp only [runM, outsOf, fSeq, fRet, fAsg, gN, fFz, fPeek, fBack, fDrop, fBin, fUn, fC, fCons, fNil, fLend, fCall, fCallK, pick, List.filterMap_cons, List.filterMap_nil, putBack, fIfS, fB, fNot, fAnd, fOr, fAndV, fOrV, fNext, fIf, fX, fLst, fTup, fMov, fPar, gs2, gs3, gT, gsCons, gsNil, fYes, gAdd_i, gLt_i, gSub_i, gDiv_i, gMod_i, gGt_i, gLe_i, gGe_i, gInt_i, gNeg_i, gAbs_i, gMax_i, gMin_i, OD.val, valL, valL_st, fItS, fFor, fLc, wipeR, fPart, fNoPart, fSl, fAppend, fExtend, fPop, fGet2, fD1, fDNew, keyD, gSetQ, gSetI, gSetD, stK_map, fItR1, fLRg, List.getElem?_cons_succ, List.getElem?_cons_zero, List.set_cons_succ, List.set_cons_zero, List.length_cons, List.length_nil, List.map_cons, List.map_nil, Option.map_some, Option.map_none, Nat.zero_add, Nat.reduceAdd, Nat.reduceLT, Nat.reduceEqDiff, and_self, big0, big1, big2, big3, big4, big5, if_true, if_false, ite_true, ite_false, Bool.not_true, Bool.not_false, Bool.true_and, Bool.false_and,e5]
      simp only [fSeq, e0, e8, e9, e7, e10, outsOf]
end Lw
set_option Elab.async false
set_option linter.all false
set_option maxRecDepth 100000
set_option maxHeartbeats 400000
namespace Lw
open PySem L2 Qy
/-! ### one thing judged -/
theorem reprQ_of {o z : OD} (h : gRepr o = some z) : gReprQ o = some z := by
  unfold gReprQ gOr1
  rw [h]
theorem pyL_all : ∀ {xs : List D}, (∀ x ∈ xs, ∃ P, x.py = some P ∧ Rep 200 2 P) → ∃ Ps, pyL xs = some Ps ∧ Ps.length = xs.length ∧ ∀ P ∈ Ps, Rep 200 2 P
  | [], _ => ⟨[], rfl, rfl, fun _ z => nomatch z⟩
  | x :: xs, h => by
    obtain ⟨P, h1, h2⟩ := h x List.mem_cons_self
    obtain ⟨Ps, h3, h4, h5⟩ := pyL_all (xs := xs) fun y hy => h y (List.mem_cons_of_mem _ hy)
    refine ⟨P :: Ps, ?_, by simp [h4], fun Q hQ => ?_⟩
    · show (match x.py, pyL xs with | some p, some ps => some (p :: ps) | _, _ => none) = _
      rw [h1, h3]
    · rcases List.mem_cons.mp hQ with rfl | hQ
      · exact h2
      · exact h5 Q hQ
theorem Thg.shw {d : D} (h : Thg d) : ∃ z, gReprQ (.st d) = some (.st (.str z)) ∧ Sok z := by
  cases h with
  | @lst xs h1 h2 =>
    obtain ⟨Ps, e1, e2, e3⟩ := pyL_all fun x hx => (h1 x hx).py
    have hp : OD.py (.st (.lst xs)) = some (.list Ps) := by
      show (pyL xs).map PyData.list = _
      rw [e1]; rfl
    have hs := shw_of hp (rep_list (w := 200) (k := 2) (n := 70) e3 (by omega)) (by omega) (by omega)
    exact ⟨_, reprQ_of hs.e, hs.sk⟩
  | @tup xs h1 h2 =>
    obtain ⟨Ps, e1, e2, e3⟩ := pyL_all fun x hx => (h1 x hx).py
    have hp : OD.py (.st (.tup xs)) = some (.tuple Ps) := by
      show (pyL xs).map PyData.tuple = _
      rw [e1]; rfl
    have hs := shw_of hp (rep_tuple (w := 200) (k := 2) (n := 70) e3 (by omega)) (by omega) (by omega)
    exact ⟨_, reprQ_of hs.e, hs.sk⟩
  | non =>
    have hs := shw_of (o := .st .non) rfl rep_none (by omega) (by omega)
    exact ⟨_, reprQ_of hs.e, hs.sk⟩
  | int0 =>
    have hs := shw_of (o := .st (.int 0)) rfl (rep_int (i := 0) (by decide)) (by omega) (by omega)
    exact ⟨_, reprQ_of hs.e, hs.sk⟩
  | str0 =>
    have hs := shw_of (o := .st (.str "")) rfl (rep_str (x := "") (k := 0) (sok_of _) (by decide +kernel)) (by omega) (by omega)
    exact ⟨_, reprQ_of hs.e, hs.sk⟩
  | dict =>
    refine ⟨_, (show gReprQ (.st (.dK [])) = some (.st (.str (PyData.shown (.dict [])))) from rfl), ?_⟩
    have : PyData.shown (.dict []) = Str.ofString "{}" := by decide +kernel
    rw [this]
    exact sok_of _
  | tru =>
    have hs := shw_of (o := .st (.bl true)) rfl (rep_bool true) (by omega) (by omega)
    exact ⟨_, reprQ_of hs.e, hs.sk⟩
theorem judged_gen {l q S d : D} {N : Int} {b : Bool} {z z2 : Str} (el : gLen (.st q) = some (.st (.int N))) (e1 : m_law_is_plan [.st S, .st (.int N), .st d] = some (.st (.bl b), [none, none, none])) (e2 : m_is_plan [.st l, .st q, .st d] = some (.st (.bl b), [none, none, none]))
    (e3 : gReprQ (.st d) = some (.st (.str z))) (e4 : gReprQ (.ol [.st (.bl b), .st (.bl b)]) = some (.st (.str z2))) (e5 : gEq (.st (.str z)) (.st (.str z)) = some (.st (.bl true))) (e6 : gEq (.st (.str z2)) (.st (.str z2)) = some (.st (.bl true))) :
    m_law_judged [.st l, .st q, .st S, .st d] = some (.st (.bl true), [none, none, none, none]) := by
  have e0 : rho0 N_law_judged [.st l, .st q, .st S, .st d] = [some (.st l), some (.st q), some (.st S), some (.st d), none, none, none] := rfl
  simp only [runM, outsOf, fSeq, fRet, fAsg, gN, fFz, fPeek, fBack, fDrop, fBin, fUn, fC, fCons, fNil, fLend, fCall, fCallK, pick, List.filterMap_cons, List.filterMap_nil, putBack, fIfS, fB, fNot, fAnd, fOr, fAndV, fOrV, fNext, fIf, fX, fLst, fTup, fMov, fPar, gs2, gs3, gT, gsCons, gsNil, fYes, gAdd_i, gLt_i, gSub_i, gDiv_i, gMod_i, gGt_i, gLe_i, gGe_i, gInt_i, gNeg_i, gAbs_i, gMax_i, gMin_i, OD.val, valL, valL_st, fItS, fFor, fLc, wipeR, fPart, fNoPart, fSl, fAppend, fExtend, fPop, fGet2, fD1, fDNew, keyD, gSetQ, gSetI, gSetD, stK_map, fItR1, fLRg, List.getElem?_cons_succ, List.getElem?_cons_zero, List.set_cons_succ, List.set_cons_zero, List.length_cons, List.length_nil, List.map_cons, List.map_nil, Option.map_some, Option.map_none, Nat.zero_add, Nat.reduceAdd, Nat.reduceLT, Nat.reduceEqDiff, and_self, big0, big1, big2, big3, big4, big5, if_true, if_false, ite_true, ite_false, Bool.not_true, Bool.not_false, Bool.true_and, Bool.false_and,m_law_judged, F_law_judged, e0, e3, el, e1, e2, e4, e6, e5]
theorem judged_ok {q : List Nat} {ws : List (List Nat)} (hq : QOk q) (hw : WOk ws) {d : D} (h : Thg d) : m_law_judged [.st (lotD ws), .st (.str (tx q)), .st (.lst (sD (sT (bT q ws)))), .st d] = some (.st (.bl true), [none, none, none, none]) := by
  have hl := bT_ok (q := q) hw.ne hq.len hw.num
  have e1 := law_planI (sT_low hq hw) (by have := sT_len' hl; omega) (N := (q.length : Int)) h
  have e2 := is_planI hq hw h
  have el := len_q hq.len
  obtain ⟨z, e3, hz⟩ := h.shw
  generalize judge (sT (bT q ws)) (q.length : Int) d = b at *
  obtain ⟨z2, hz2⟩ : ∃ z, Shw (.ol [.st (.bl b), .st (.bl b)]) z := ⟨_, shw_of (py_bO [b, b]) (rep_bools (n := 2) (by simp)) (by omega) (by omega)⟩
  exact judged_gen el e1 e2 e3 (reprQ_of hz2.e) (eq_same hz) (eq_same hz2.sk)
/-! ### steps gone -/
theorem ne_s0 (X : List Stp) : (∀ t ∈ X, PyData.strOk t.2.1 = true) → gNe (.ol ((sD X).map .st)) (.ol []) = some (.st (.bl (!decide (X = [])))) := fun h => by
  have e2 : OD.py (.ol []) = some (.list []) := rfl
  unfold gNe
  rw [py_sO, e2]
  simp only
  rw [if_pos ⟨shaped_sL h, rfl⟩]
  cases X with
  | nil => rfl
  | cons a r => rfl
def isAt (a : Int) : D → Bool
  | .tup [.int b, .str _, .int _] => decide (b = a)
  | _ => false
theorem filter_at (A : List Stp) (a : Int) : ((sD A).filter (isAt a)).map (fun x => OD.st x) = (sD (atS A a)).map .st := by
  unfold sD atS
  rw [List.filter_map]
  rfl
def isSp (L : List (Int × Int)) (p d : Int) : D → Bool
  | .tup [.int a, .str _, .int b] => decide (a = p) && decide (look L b = some (d - 1))
  | _ => false
theorem filter_sp (A : List Stp) (L : List (Int × Int)) (p d : Int) : ((sD A).filter (isSp L p d)).map (fun x => OD.st x) = (sD (pickS A L p d)).map .st := by
  unfold sD pickS atS
  rw [List.filter_map, List.filter_filter]
  congr 2
  refine List.filter_congr fun s _ => ?_
  simp only [Function.comp, isSp]
  rw [Bool.and_comm]
def GoT : Ft := (fB (fBin gEq (fE (fBin gIx (fP 8) (fE (fC (.int 0))))) (fP 3)))
def GoL : Fe := (fLc [8] (fItS (fFz (fP 1))) (gN 8) GoT (fFz (fP 8)))
noncomputable def GoP : Fs := (fSeq (fX (fAppend 4 (fFz (fE (fCall m_law_pick (fLend 0 (fCons (fFz (fP 7)) fNil)) [some 0, none]))))) (fAsg (fBin gIx (fE (fBin gIx (fP 4) (fE (fUn gNeg (fE (fC (.int 1))))))) (fE (fC (.int 2)))) (gN 3)))
noncomputable def GoB : Fs := (fSeq (fAsg GoL (gN 7)) (fIfS (fB (fBin gNe (fP 7) (fE (fLst fNil)))) GoP fNext))
theorem goL_ok {A : List Stp} (hn : A.length ≤ 1000) {x0 x2 x4 x5 x6 x7 : Option OD} {h : Int} : GoL [x0, some (.st (.lst (sD A))), x2, some (.st (.int h)), x4, x5, x6, x7, none] = some (.ol ((sD (atS A h)).map .st), [x0, some (.st (.lst (sD A))), x2, some (.st (.int h)), x4, x5, x6, x7, none]) := by
  have e2 := compL_pure (own := [8]) (tg := gN 8) (tt := GoT) (te := (fFz (fP 8))) (ρ0 := [x0, some (.st (.lst (sD A))), x2, some (.st (.int h)), x4, x5, x6, x7, none]) (p := isAt h) (g := fun x => .st x) (ds := sD A) (acc := []) (by
      intro x hx
      obtain ⟨s, hs, rfl⟩ := List.mem_map.mp hx
      have e3 := eqI s.1 h
      refine ⟨[x0, some (.st (.lst (sD A))), x2, some (.st (.int h)), x4, x5, x6, x7, some (.st (stp s))], [x0, some (.st (.lst (sD A))), x2, some (.st (.int h)), x4, x5, x6, x7, some (.st (stp s))], by simp only [runM, outsOf, fSeq, fRet, fAsg, gN, fFz, fPeek, fBack, fDrop, fBin, fUn, fC, fCons, fNil, fLend, fCall, fCallK, pick, List.filterMap_cons, List.filterMap_nil, putBack, fIfS, fB, fNot, fAnd, fOr, fAndV, fOrV, fNext, fIf, fX, fLst, fTup, fMov, fPar, gs2, gs3, gT, gsCons, gsNil, fYes, gAdd_i, gLt_i, gSub_i, gDiv_i, gMod_i, gGt_i, gLe_i, gGe_i, gInt_i, gNeg_i, gAbs_i, gMax_i, gMin_i, OD.val, valL, valL_st, fItS, fFor, fLc, wipeR, fPart, fNoPart, fSl, fAppend, fExtend, fPop, fGet2, fD1, fDNew, keyD, gSetQ, gSetI, gSetD, stK_map, fItR1, fLRg, List.getElem?_cons_succ, List.getElem?_cons_zero, List.set_cons_succ, List.set_cons_zero, List.length_cons, List.length_nil, List.map_cons, List.map_nil, Option.map_some, Option.map_none, Nat.zero_add, Nat.reduceAdd, Nat.reduceLT, Nat.reduceEqDiff, and_self, big0, big1, big2, big3, big4, big5, if_true, if_false, ite_true, ite_false, Bool.not_true, Bool.not_false, Bool.true_and, Bool.false_and], ?_, (fun _ => by simp [wipeR]), fun _ => ⟨[x0, some (.st (.lst (sD A))), x2, some (.st (.int h)), x4, x5, x6, x7, some (.st (stp s))], by simp only [runM, outsOf, fSeq, fRet, fAsg, gN, fFz, fPeek, fBack, fDrop, fBin, fUn, fC, fCons, fNil, fLend, fCall, fCallK, pick, List.filterMap_cons, List.filterMap_nil, putBack, fIfS, fB, fNot, fAnd, fOr, fAndV, fOrV, fNext, fIf, fX, fLst, fTup, fMov, fPar, gs2, gs3, gT, gsCons, gsNil, fYes, gAdd_i, gLt_i, gSub_i, gDiv_i, gMod_i, gGt_i, gLe_i, gGe_i, gInt_i, gNeg_i, gAbs_i, gMax_i, gMin_i, OD.val, valL, valL_st, fItS, fFor, fLc, wipeR, fPart, fNoPart, fSl, fAppend, fExtend, fPop, fGet2, fD1, fDNew, keyD, gSetQ, gSetI, gSetD, stK_map, fItR1, fLRg, List.getElem?_cons_succ, List.getElem?_cons_zero, List.set_cons_succ, List.set_cons_zero, List.length_cons, List.length_nil, List.map_cons, List.map_nil, Option.map_some, Option.map_none, Nat.zero_add, Nat.reduceAdd, Nat.reduceLT, Nat.reduceEqDiff, and_self, big0, big1, big2, big3, big4, big5, if_true, if_false, ite_true, ite_false, Bool.not_true, Bool.not_false, Bool.true_and, Bool.false_and], by simp [wipeR]⟩⟩
      simp only [runM, outsOf, fSeq, fRet, fAsg, gN, fFz, fPeek, fBack, fDrop, fBin, fUn, fC, fCons, fNil, fLend, fCall, fCallK, pick, List.filterMap_cons, List.filterMap_nil, putBack, fIfS, fB, fNot, fAnd, fOr, fAndV, fOrV, fNext, fIf, fX, fLst, fTup, fMov, fPar, gs2, gs3, gT, gsCons, gsNil, fYes, gAdd_i, gLt_i, gSub_i, gDiv_i, gMod_i, gGt_i, gLe_i, gGe_i, gInt_i, gNeg_i, gAbs_i, gMax_i, gMin_i, OD.val, valL, valL_st, fItS, fFor, fLc, wipeR, fPart, fNoPart, fSl, fAppend, fExtend, fPop, fGet2, fD1, fDNew, keyD, gSetQ, gSetI, gSetD, stK_map, fItR1, fLRg, List.getElem?_cons_succ, List.getElem?_cons_zero, List.set_cons_succ, List.set_cons_zero, List.length_cons, List.length_nil, List.map_cons, List.map_nil, Option.map_some, Option.map_none, Nat.zero_add, Nat.reduceAdd, Nat.reduceLT, Nat.reduceEqDiff, and_self, big0, big1, big2, big3, big4, big5, if_true, if_false, ite_true, ite_false, Bool.not_true, Bool.not_false, Bool.true_and, Bool.false_and,GoT, ix_s0, e3, isAt]) (by simp [big]; omega)
  rw [List.nil_append, filter_at] at e2
  simp only [runM, outsOf, fSeq, fRet, fAsg, gN, fFz, fPeek, fBack, fDrop, fBin, fUn, fC, fCons, fNil, fLend, fCall, fCallK, pick, List.filterMap_cons, List.filterMap_nil, putBack, fIfS, fB, fNot, fAnd, fOr, fAndV, fOrV, fNext, fIf, fX, fLst, fTup, fMov, fPar, gs2, gs3, gT, gsCons, gsNil, fYes, gAdd_i, gLt_i, gSub_i, gDiv_i, gMod_i, gGt_i, gLe_i, gGe_i, gInt_i, gNeg_i, gAbs_i, gMax_i, gMin_i, OD.val, valL, valL_st, fItS, fFor, fLc, wipeR, fPart, fNoPart, fSl, fAppend, fExtend, fPop, fGet2, fD1, fDNew, keyD, gSetQ, gSetI, gSetD, stK_map, fItR1, fLRg, List.getElem?_cons_succ, List.getElem?_cons_zero, List.set_cons_succ, List.set_cons_zero, List.length_cons, List.length_nil, List.map_cons, List.map_nil, Option.map_some, Option.map_none, Nat.zero_add, Nat.reduceAdd, Nat.reduceLT, Nat.reduceEqDiff, and_self, big0, big1, big2, big3, big4, big5, if_true, if_false, ite_true, ite_false, Bool.not_true, Bool.not_false, Bool.true_and, Bool.false_and,GoL, e2]
/-- one of some is put on -/
theorem goP_ok {A X P : List Stp} {o : OD} (hp : PotOk o) (hX : X ≠ []) (hXl : X.length ≤ 1000) (hP : P.length ≤ 1000) {x1 x2 x3 x5 x6 x8 : Option OD} {x7 : OD} (h7 : x7.val = .lst (sD X)) (h7' : x7 = .ol ((sD X).map .st) ∨ x7 = .st (.lst (sD X))) :
    ∃ t o' t7, t ∈ X ∧ PotOk o' ∧ GoP [some o, x1, x2, x3, some (.ol ((sD P).map .st)), x5, x6, some x7, x8] = some (.nx [some o', x1, x2, some (.st (.int t.2.2)), some (.ol ((sD (P ++ [t])).map .st)), x5, x6, t7, x8]) := by
  obtain ⟨d, o', hd, e1, hp'⟩ := pick_ok (ds := sD X) hp (by simpa using hX) (by simp; omega)
  obtain ⟨t, ht, rfl⟩ := List.mem_map.mp hd
  refine ⟨t, o', some (.st (.lst (sD X))), ht, hp', ?_⟩
  have e3 := ix_last (stp t) (sD P)
  have hb : ((sD P).map OD.st).length ≤ big := by simp [big]; omega
  have ee : (sD P).map OD.st ++ [OD.st (stp t)] = (sD P ++ [stp t]).map .st := by simp
  have es : (sD (P ++ [t])) = sD P ++ [stp t] := by simp
  rw [es]
  obtain ⟨pp, qq, rfl, _⟩ := hp
  rcases h7' with rfl | rfl
  · simp only [runM, outsOf, fSeq, fRet, fAsg, gN, fFz, fPeek, fBack, fDrop, fBin, fUn, fC, fCons, fNil, fLend, fCall, fCallK, pick, List.filterMap_cons, List.filterMap_nil, putBack, fIfS, fB, fNot, fAnd, fOr, fAndV, fOrV, fNext, fIf, fX, fLst, fTup, fMov, fPar, gs2, gs3, gT, gsCons, gsNil, fYes, gAdd_i, gLt_i, gSub_i, gDiv_i, gMod_i, gGt_i, gLe_i, gGe_i, gInt_i, gNeg_i, gAbs_i, gMax_i, gMin_i, OD.val, valL, valL_st, fItS, fFor, fLc, wipeR, fPart, fNoPart, fSl, fAppend, fExtend, fPop, fGet2, fD1, fDNew, keyD, gSetQ, gSetI, gSetD, stK_map, fItR1, fLRg, List.getElem?_cons_succ, List.getElem?_cons_zero, List.set_cons_succ, List.set_cons_zero, List.length_cons, List.length_nil, List.map_cons, List.map_nil, Option.map_some, Option.map_none, Nat.zero_add, Nat.reduceAdd, Nat.reduceLT, Nat.reduceEqDiff, and_self, big0, big1, big2, big3, big4, big5, if_true, if_false, ite_true, ite_false, Bool.not_true, Bool.not_false, Bool.true_and, Bool.false_and,GoP, e1, if_pos hb, ee, e3, ix_s2]
  · simp only [runM, outsOf, fSeq, fRet, fAsg, gN, fFz, fPeek, fBack, fDrop, fBin, fUn, fC, fCons, fNil, fLend, fCall, fCallK, pick, List.filterMap_cons, List.filterMap_nil, putBack, fIfS, fB, fNot, fAnd, fOr, fAndV, fOrV, fNext, fIf, fX, fLst, fTup, fMov, fPar, gs2, gs3, gT, gsCons, gsNil, fYes, gAdd_i, gLt_i, gSub_i, gDiv_i, gMod_i, gGt_i, gLe_i, gGe_i, gInt_i, gNeg_i, gAbs_i, gMax_i, gMin_i, OD.val, valL, valL_st, fItS, fFor, fLc, wipeR, fPart, fNoPart, fSl, fAppend, fExtend, fPop, fGet2, fD1, fDNew, keyD, gSetQ, gSetI, gSetD, stK_map, fItR1, fLRg, List.getElem?_cons_succ, List.getElem?_cons_zero, List.set_cons_succ, List.set_cons_zero, List.length_cons, List.length_nil, List.map_cons, List.map_nil, Option.map_some, Option.map_none, Nat.zero_add, Nat.reduceAdd, Nat.reduceLT, Nat.reduceEqDiff, and_self, big0, big1, big2, big3, big4, big5, if_true, if_false, ite_true, ite_false, Bool.not_true, Bool.not_false, Bool.true_and, Bool.false_and,GoP, e1, if_pos hb, ee, e3, ix_s2]
end Lw
set_option Elab.async false
set_option linter.all false
set_option maxRecDepth 100000
set_option maxHeartbeats 400000
namespace Lw
open PySem L2 Qy
theorem goB_ok {A P : List Stp} (hA : SLow A) (hn : A.length ≤ 1000) (hP : P.length ≤ 900) {o : OD} (hp : PotOk o) {x2 x5 x6 x7 : Option OD} {h : Int} :
    ∃ o' h' P' t7, PotOk o' ∧ GoB [some o, some (.st (.lst (sD A))), x2, some (.st (.int h)), some (.ol ((sD P).map .st)), x5, x6, x7, none] = some (.nx [some o', some (.st (.lst (sD A))), x2, some (.st (.int h')), some (.ol ((sD P').map .st)), x5, x6, t7, none]) ∧ (P' = P ∨ ∃ t ∈ A, P' = P ++ [t]) := by
  have e1 := goL_ok hn (x0 := some o) (x2 := x2) (x4 := some (.ol ((sD P).map .st))) (x5 := x5) (x6 := x6) (x7 := x7) (h := h)
  have hsub : ∀ t ∈ atS A h, t ∈ A := fun t ht => (atS_mem.mp ht).1
  have e2 := ne_s0 (atS A h) (fun t ht => strOk_sok (fun c hc => by have := (hA.wd t (hsub t ht)).1 c hc; omega))
  have hl := atS_len A h
  by_cases h0 : atS A h = []
  · have e2' : gNe (.ol ((sD (atS A h)).map .st)) (.ol []) = some (.st (.bl false)) := by rw [e2]; simp [h0]
    clear h0
    refine ⟨o, h, P, some (.ol ((sD (atS A h)).map .st)), hp, ?_, .inl rfl⟩
    generalize hf : GoL = f at *
    simp only [runM, outsOf, fSeq, fRet, fAsg, gN, fFz, fPeek, fBack, fDrop, fBin, fUn, fC, fCons, fNil, fLend, fCall, fCallK, pick, List.filterMap_cons, List.filterMap_nil, putBack, fIfS, fB, fNot, fAnd, fOr, fAndV, fOrV, fNext, fIf, fX, fLst, fTup, fMov, fPar, gs2, gs3, gT, gsCons, gsNil, fYes, gAdd_i, gLt_i, gSub_i, gDiv_i, gMod_i, gGt_i, gLe_i, gGe_i, gInt_i, gNeg_i, gAbs_i, gMax_i, gMin_i, OD.val, valL, valL_st, fItS, fFor, fLc, wipeR, fPart, fNoPart, fSl, fAppend, fExtend, fPop, fGet2, fD1, fDNew, keyD, gSetQ, gSetI, gSetD, stK_map, fItR1, fLRg, List.getElem?_cons_succ, List.getElem?_cons_zero, List.set_cons_succ, List.set_cons_zero, List.length_cons, List.length_nil, List.map_cons, List.map_nil, Option.map_some, Option.map_none, Nat.zero_add, Nat.reduceAdd, Nat.reduceLT, Nat.reduceEqDiff, and_self, big0, big1, big2, big3, big4, big5, if_true, if_false, ite_true, ite_false, Bool.not_true, Bool.not_false, Bool.true_and, Bool.false_and,GoB, hf, e1, e2']
  · have e2' : gNe (.ol ((sD (atS A h)).map .st)) (.ol []) = some (.st (.bl true)) := by rw [e2]; simp [h0]
    obtain ⟨t, o', t7, ht, hp', e3⟩ := goP_ok (A := A) (X := atS A h) (P := P) hp h0 (by omega) (by omega) (x1 := some (.st (.lst (sD A)))) (x2 := x2) (x3 := some (.st (.int h))) (x5 := x5) (x6 := x6) (x8 := none) (x7 := .ol ((sD (atS A h)).map .st)) (val_ol _) (.inl rfl)
    refine ⟨o', t.2.2, P ++ [t], t7, hp', ?_, .inr ⟨t, hsub t ht, rfl⟩⟩
    clear h0
    generalize hf : GoL = f at *
    generalize hg : GoP = g at *
    simp only [runM, outsOf, fSeq, fRet, fAsg, gN, fFz, fPeek, fBack, fDrop, fBin, fUn, fC, fCons, fNil, fLend, fCall, fCallK, pick, List.filterMap_cons, List.filterMap_nil, putBack, fIfS, fB, fNot, fAnd, fOr, fAndV, fOrV, fNext, fIf, fX, fLst, fTup, fMov, fPar, gs2, gs3, gT, gsCons, gsNil, fYes, gAdd_i, gLt_i, gSub_i, gDiv_i, gMod_i, gGt_i, gLe_i, gGe_i, gInt_i, gNeg_i, gAbs_i, gMax_i, gMin_i, OD.val, valL, valL_st, fItS, fFor, fLc, wipeR, fPart, fNoPart, fSl, fAppend, fExtend, fPop, fGet2, fD1, fDNew, keyD, gSetQ, gSetI, gSetD, stK_map, fItR1, fLRg, List.getElem?_cons_succ, List.getElem?_cons_zero, List.set_cons_succ, List.set_cons_zero, List.length_cons, List.length_nil, List.map_cons, List.map_nil, Option.map_some, Option.map_none, Nat.zero_add, Nat.reduceAdd, Nat.reduceLT, Nat.reduceEqDiff, and_self, big0, big1, big2, big3, big4, big5, if_true, if_false, ite_true, ite_false, Bool.not_true, Bool.not_false, Bool.true_and, Bool.false_and,GoB, hf, e1, e2', hg, e3]
def G2T : Ft := (fAnd (fB (fBin gEq (fE (fBin gIx (fP 8) (fE (fC (.int 0))))) (fP 3))) (fB (fBin gEq (fE (fGet1 (fP 5) (fBin gIx (fP 8) (fE (fC (.int 2)))))) (fE (fBin gSubI (fE (fBin gDGet (fP 5) (fP 3))) (fE (fC (.int 1))))))))
def G2L : Fe := (fLc [8] (fItS (fFz (fP 1))) (gN 8) G2T (fFz (fP 8)))
noncomputable def G2B : Fs := (fSeq (fAsg G2L (gN 7)) GoP)
theorem g2T_ok {L : List (Int × Int)} {x0 x1 x2 x4 x6 x7 : Option OD} {p d : Int} {s : Stp} (hp : look L p = some d) :
    G2T [x0, x1, x2, some (.st (.int p)), x4, some (dO L), x6, x7, some (.st (stp s))] = some (isSp L p d (stp s), [x0, x1, x2, some (.st (.int p)), x4, some (dO L), x6, x7, some (.st (stp s))]) := by
  have e2 := get_dk hp
  have e4 := eqI s.1 p
  by_cases hs : s.1 = p
  · have e4' : gEq (.st (.int s.1)) (.st (.int p)) = some (.st (.bl true)) := by rw [e4]; simp [hs]
    have e5 := get1_dk (L := L) (oa := fP 5) (fk := (fBin gIx (fP 8) (fE (fC (.int 2))))) (ρ := [x0, x1, x2, some (.st (.int p)), x4, some (dO L), x6, x7, some (.st (stp s))]) (ρ1 := [x0, x1, x2, some (.st (.int p)), x4, none, x6, x7, some (.st (stp s))]) (ρ2 := [x0, x1, x2, some (.st (.int p)), x4, none, x6, x7, some (.st (stp s))]) (x := s.2.2) (by simp only [runM, outsOf, fSeq, fRet, fAsg, gN, fFz, fPeek, fBack, fDrop, fBin, fUn, fC, fCons, fNil, fLend, fCall, fCallK, pick, List.filterMap_cons, List.filterMap_nil, putBack, fIfS, fB, fNot, fAnd, fOr, fAndV, fOrV, fNext, fIf, fX, fLst, fTup, fMov, fPar, gs2, gs3, gT, gsCons, gsNil, fYes, gAdd_i, gLt_i, gSub_i, gDiv_i, gMod_i, gGt_i, gLe_i, gGe_i, gInt_i, gNeg_i, gAbs_i, gMax_i, gMin_i, OD.val, valL, valL_st, fItS, fFor, fLc, wipeR, fPart, fNoPart, fSl, fAppend, fExtend, fPop, fGet2, fD1, fDNew, keyD, gSetQ, gSetI, gSetD, stK_map, fItR1, fLRg, List.getElem?_cons_succ, List.getElem?_cons_zero, List.set_cons_succ, List.set_cons_zero, List.length_cons, List.length_nil, List.map_cons, List.map_nil, Option.map_some, Option.map_none, Nat.zero_add, Nat.reduceAdd, Nat.reduceLT, Nat.reduceEqDiff, and_self, big0, big1, big2, big3, big4, big5, if_true, if_false, ite_true, ite_false, Bool.not_true, Bool.not_false, Bool.true_and, Bool.false_and]) (by simp only [runM, outsOf, fSeq, fRet, fAsg, gN, fFz, fPeek, fBack, fDrop, fBin, fUn, fC, fCons, fNil, fLend, fCall, fCallK, pick, List.filterMap_cons, List.filterMap_nil, putBack, fIfS, fB, fNot, fAnd, fOr, fAndV, fOrV, fNext, fIf, fX, fLst, fTup, fMov, fPar, gs2, gs3, gT, gsCons, gsNil, fYes, gAdd_i, gLt_i, gSub_i, gDiv_i, gMod_i, gGt_i, gLe_i, gGe_i, gInt_i, gNeg_i, gAbs_i, gMax_i, gMin_i, OD.val, valL, valL_st, fItS, fFor, fLc, wipeR, fPart, fNoPart, fSl, fAppend, fExtend, fPop, fGet2, fD1, fDNew, keyD, gSetQ, gSetI, gSetD, stK_map, fItR1, fLRg, List.getElem?_cons_succ, List.getElem?_cons_zero, List.set_cons_succ, List.set_cons_zero, List.length_cons, List.length_nil, List.map_cons, List.map_nil, Option.map_some, Option.map_none, Nat.zero_add, Nat.reduceAdd, Nat.reduceLT, Nat.reduceEqDiff, and_self, big0, big1, big2, big3, big4, big5, if_true, if_false, ite_true, ite_false, Bool.not_true, Bool.not_false, Bool.true_and, Bool.false_and,ix_s2])
    have e6 := eq_get (look L s.2.2) (d - 1)
    have ei : isSp L p d (stp s) = decide (look L s.2.2 = some (d - 1)) := by simp [isSp, hs]
    rw [ei]
    simp only [fP, fBack, List.set_cons_succ, List.set_cons_zero] at e5
    simp only [runM, outsOf, fSeq, fRet, fAsg, gN, fFz, fPeek, fBack, fDrop, fBin, fUn, fC, fCons, fNil, fLend, fCall, fCallK, pick, List.filterMap_cons, List.filterMap_nil, putBack, fIfS, fB, fNot, fAnd, fOr, fAndV, fOrV, fNext, fIf, fX, fLst, fTup, fMov, fPar, gs2, gs3, gT, gsCons, gsNil, fYes, gAdd_i, gLt_i, gSub_i, gDiv_i, gMod_i, gGt_i, gLe_i, gGe_i, gInt_i, gNeg_i, gAbs_i, gMax_i, gMin_i, OD.val, valL, valL_st, fItS, fFor, fLc, wipeR, fPart, fNoPart, fSl, fAppend, fExtend, fPop, fGet2, fD1, fDNew, keyD, gSetQ, gSetI, gSetD, stK_map, fItR1, fLRg, List.getElem?_cons_succ, List.getElem?_cons_zero, List.set_cons_succ, List.set_cons_zero, List.length_cons, List.length_nil, List.map_cons, List.map_nil, Option.map_some, Option.map_none, Nat.zero_add, Nat.reduceAdd, Nat.reduceLT, Nat.reduceEqDiff, and_self, big0, big1, big2, big3, big4, big5, if_true, if_false, ite_true, ite_false, Bool.not_true, Bool.not_false, Bool.true_and, Bool.false_and,G2T, ix_s0, e4', e5, e2, e6]
  · have e4' : gEq (.st (.int s.1)) (.st (.int p)) = some (.st (.bl false)) := by rw [e4]; simp [hs]
    have ei : isSp L p d (stp s) = false := by simp [isSp, hs]
    rw [ei]
    simp only [runM, outsOf, fSeq, fRet, fAsg, gN, fFz, fPeek, fBack, fDrop, fBin, fUn, fC, fCons, fNil, fLend, fCall, fCallK, pick, List.filterMap_cons, List.filterMap_nil, putBack, fIfS, fB, fNot, fAnd, fOr, fAndV, fOrV, fNext, fIf, fX, fLst, fTup, fMov, fPar, gs2, gs3, gT, gsCons, gsNil, fYes, gAdd_i, gLt_i, gSub_i, gDiv_i, gMod_i, gGt_i, gLe_i, gGe_i, gInt_i, gNeg_i, gAbs_i, gMax_i, gMin_i, OD.val, valL, valL_st, fItS, fFor, fLc, wipeR, fPart, fNoPart, fSl, fAppend, fExtend, fPop, fGet2, fD1, fDNew, keyD, gSetQ, gSetI, gSetD, stK_map, fItR1, fLRg, List.getElem?_cons_succ, List.getElem?_cons_zero, List.set_cons_succ, List.set_cons_zero, List.length_cons, List.length_nil, List.map_cons, List.map_nil, Option.map_some, Option.map_none, Nat.zero_add, Nat.reduceAdd, Nat.reduceLT, Nat.reduceEqDiff, and_self, big0, big1, big2, big3, big4, big5, if_true, if_false, ite_true, ite_false, Bool.not_true, Bool.not_false, Bool.true_and, Bool.false_and,G2T, ix_s0, e4']
theorem g2L_ok {A : List Stp} {L : List (Int × Int)} (hn : A.length ≤ 1000) {x0 x2 x4 x6 x7 : Option OD} {p d : Int} (hp : look L p = some d) : G2L [x0, some (.st (.lst (sD A))), x2, some (.st (.int p)), x4, some (dO L), x6, x7, none] = some (.ol ((sD (pickS A L p d)).map .st), [x0, some (.st (.lst (sD A))), x2, some (.st (.int p)), x4, some (dO L), x6, x7, none]) := by
  have e2 := compL_pure (own := [8]) (tg := gN 8) (tt := G2T) (te := (fFz (fP 8))) (ρ0 := [x0, some (.st (.lst (sD A))), x2, some (.st (.int p)), x4, some (dO L), x6, x7, none]) (p := isSp L p d) (g := fun x => .st x) (ds := sD A) (acc := []) (by
      intro x hx
      obtain ⟨s, hs, rfl⟩ := List.mem_map.mp hx
      exact ⟨[x0, some (.st (.lst (sD A))), x2, some (.st (.int p)), x4, some (dO L), x6, x7, some (.st (stp s))], [x0, some (.st (.lst (sD A))), x2, some (.st (.int p)), x4, some (dO L), x6, x7, some (.st (stp s))], by simp only [runM, outsOf, fSeq, fRet, fAsg, gN, fFz, fPeek, fBack, fDrop, fBin, fUn, fC, fCons, fNil, fLend, fCall, fCallK, pick, List.filterMap_cons, List.filterMap_nil, putBack, fIfS, fB, fNot, fAnd, fOr, fAndV, fOrV, fNext, fIf, fX, fLst, fTup, fMov, fPar, gs2, gs3, gT, gsCons, gsNil, fYes, gAdd_i, gLt_i, gSub_i, gDiv_i, gMod_i, gGt_i, gLe_i, gGe_i, gInt_i, gNeg_i, gAbs_i, gMax_i, gMin_i, OD.val, valL, valL_st, fItS, fFor, fLc, wipeR, fPart, fNoPart, fSl, fAppend, fExtend, fPop, fGet2, fD1, fDNew, keyD, gSetQ, gSetI, gSetD, stK_map, fItR1, fLRg, List.getElem?_cons_succ, List.getElem?_cons_zero, List.set_cons_succ, List.set_cons_zero, List.length_cons, List.length_nil, List.map_cons, List.map_nil, Option.map_some, Option.map_none, Nat.zero_add, Nat.reduceAdd, Nat.reduceLT, Nat.reduceEqDiff, and_self, big0, big1, big2, big3, big4, big5, if_true, if_false, ite_true, ite_false, Bool.not_true, Bool.not_false, Bool.true_and, Bool.false_and], g2T_ok hp, (fun _ => by simp [wipeR]), fun _ => ⟨[x0, some (.st (.lst (sD A))), x2, some (.st (.int p)), x4, some (dO L), x6, x7, some (.st (stp s))], by simp only [runM, outsOf, fSeq, fRet, fAsg, gN, fFz, fPeek, fBack, fDrop, fBin, fUn, fC, fCons, fNil, fLend, fCall, fCallK, pick, List.filterMap_cons, List.filterMap_nil, putBack, fIfS, fB, fNot, fAnd, fOr, fAndV, fOrV, fNext, fIf, fX, fLst, fTup, fMov, fPar, gs2, gs3, gT, gsCons, gsNil, fYes, gAdd_i, gLt_i, gSub_i, gDiv_i, gMod_i, gGt_i, gLe_i, gGe_i, gInt_i, gNeg_i, gAbs_i, gMax_i, gMin_i, OD.val, valL, valL_st, fItS, fFor, fLc, wipeR, fPart, fNoPart, fSl, fAppend, fExtend, fPop, fGet2, fD1, fDNew, keyD, gSetQ, gSetI, gSetD, stK_map, fItR1, fLRg, List.getElem?_cons_succ, List.getElem?_cons_zero, List.set_cons_succ, List.set_cons_zero, List.length_cons, List.length_nil, List.map_cons, List.map_nil, Option.map_some, Option.map_none, Nat.zero_add, Nat.reduceAdd, Nat.reduceLT, Nat.reduceEqDiff, and_self, big0, big1, big2, big3, big4, big5, if_true, if_false, ite_true, ite_false, Bool.not_true, Bool.not_false, Bool.true_and, Bool.false_and], by simp [wipeR]⟩⟩) (by simp [big]; omega)
  rw [List.nil_append, filter_sp] at e2
  simp only [runM, outsOf, fSeq, fRet, fAsg, gN, fFz, fPeek, fBack, fDrop, fBin, fUn, fC, fCons, fNil, fLend, fCall, fCallK, pick, List.filterMap_cons, List.filterMap_nil, putBack, fIfS, fB, fNot, fAnd, fOr, fAndV, fOrV, fNext, fIf, fX, fLst, fTup, fMov, fPar, gs2, gs3, gT, gsCons, gsNil, fYes, gAdd_i, gLt_i, gSub_i, gDiv_i, gMod_i, gGt_i, gLe_i, gGe_i, gInt_i, gNeg_i, gAbs_i, gMax_i, gMin_i, OD.val, valL, valL_st, fItS, fFor, fLc, wipeR, fPart, fNoPart, fSl, fAppend, fExtend, fPop, fGet2, fD1, fDNew, keyD, gSetQ, gSetI, gSetD, stK_map, fItR1, fLRg, List.getElem?_cons_succ, List.getElem?_cons_zero, List.set_cons_succ, List.set_cons_zero, List.length_cons, List.length_nil, List.map_cons, List.map_nil, Option.map_some, Option.map_none, Nat.zero_add, Nat.reduceAdd, Nat.reduceLT, Nat.reduceEqDiff, and_self, big0, big1, big2, big3, big4, big5, if_true, if_false, ite_true, ite_false, Bool.not_true, Bool.not_false, Bool.true_and, Bool.false_and,G2L, e2]
theorem pick_any {A : List Stp} {s : Int} {n : Nat} {L : List (Int × Int)} (h : FarI A s n L) {p : Int} {d : Nat} {t : Stp} (ht : t ∈ pickS A L p ((d : Int) + 1)) : t ∈ A ∧ (t.2.2, (d : Int)) ∈ L := by
  unfold pickS at ht
  rw [List.mem_filter] at ht
  refine ⟨(atS_mem.mp ht.1).1, (look_mem h.nd).mp ?_⟩
  have h4 : look L t.2.2 = some ((d : Int) + 1 - 1) := by simpa using ht.2
  rw [h4]
  congr 1
  omega
theorem g2F_ok {A : List Stp} {s : Int} {n : Nat} {L : List (Int × Int)} (hF : FarI A s n L) (sy : ∀ a w b, (a, w, b) ∈ A → (b, w, a) ∈ A) (hn : A.length ≤ 1000) {x2 : Option OD} : ∀ (d : Nat) (ds : List D) (p : Int) (P : List Stp) (o : OD) (s6 s7 : Option OD), ds.length = d → (p, (d : Int)) ∈ L → P.length + d ≤ 900 → PotOk o → (∀ t ∈ P, t ∈ A) →
    ∃ o' P' t3 t6 t7, PotOk o' ∧ (∀ t ∈ P', t ∈ A) ∧ P'.length = P.length + d ∧ loopF (gN 6) G2B ds [some o, some (.st (.lst (sD A))), x2, some (.st (.int p)), some (.ol ((sD P).map .st)), some (dO L), s6, s7, none] = some (.nx [some o', some (.st (.lst (sD A))), x2, t3, some (.ol ((sD P').map .st)), some (dO L), t6, t7, none])
  | 0, ds, p, P, o, s6, s7, hd, hp, _, hpo, hP => by
    have : ds = [] := List.length_eq_zero_iff.mp hd
    subst this
    exact ⟨o, P, some (.st (.int p)), s6, s7, hpo, hP, rfl, by simp [loopF]⟩
  | d + 1, [], p, P, o, s6, s7, hd, hp, _, _, _ => by cases hd
  | d + 1, x :: ds, p, P, o, s6, s7, hd, hp, hl, hpo, hP => by
    have hp' : (p, (d : Int) + 1) ∈ L := by simpa using hp
    obtain ⟨t0, r0, e0, _, _, _⟩ := Qy.pickS_ok hF sy hp'
    have hne : pickS A L p ((d : Int) + 1) ≠ [] := by rw [e0]; simp
    have hXl : (pickS A L p ((d : Int) + 1)).length ≤ 1000 := by
      unfold pickS
      have h1 := List.length_filter_le (fun s : Stp => decide (look L s.2.2 = some ((d : Int) + 1 - 1))) (atS A p)
      have h2 := atS_len A p
      omega
    have e1 := g2L_ok (A := A) hn (x0 := some o) (x2 := x2) (x4 := some (.ol ((sD P).map .st))) (x6 := some (.st x)) (x7 := s7) ((look_mem hF.nd).mpr hp')
    obtain ⟨t, o1, t7, ht, hp1, e3⟩ := goP_ok (A := A) (X := pickS A L p ((d : Int) + 1)) (P := P) hpo hne hXl (by omega) (x1 := some (.st (.lst (sD A)))) (x2 := x2) (x3 := some (.st (.int p))) (x5 := some (dO L)) (x6 := some (.st x)) (x8 := none) (x7 := .ol ((sD (pickS A L p ((d : Int) + 1))).map .st)) (val_ol _) (.inl rfl)
    obtain ⟨htA, htL⟩ := pick_any hF ht
    obtain ⟨o', P', t3, t6', t7', h1, h2, h3, h4⟩ := g2F_ok hF sy hn (x2 := x2) d ds t.2.2 (P ++ [t]) o1 (some (.st x)) t7 (by simpa using hd) htL (by simp; omega) hp1 (fun u hu => by
      rcases List.mem_append.mp hu with z | z
      · exact hP u z
      · have : u = t := by simpa using z
        rw [this]; exact htA)
    refine ⟨o', P', t3, t6', t7', h1, h2, by rw [h3]; simp; omega, ?_⟩
    have g1 : gN 6 (.st x) [some o, some (.st (.lst (sD A))), x2, some (.st (.int p)), some (.ol ((sD P).map .st)), some (dO L), s6, s7, none] = some [some o, some (.st (.lst (sD A))), x2, some (.st (.int p)), some (.ol ((sD P).map .st)), some (dO L), some (.st x), s7, none] := by simp only [runM, outsOf, fSeq, fRet, fAsg, gN, fFz, fPeek, fBack, fDrop, fBin, fUn, fC, fCons, fNil, fLend, fCall, fCallK, pick, List.filterMap_cons, List.filterMap_nil, putBack, fIfS, fB, fNot, fAnd, fOr, fAndV, fOrV, fNext, fIf, fX, fLst, fTup, fMov, fPar, gs2, gs3, gT, gsCons, gsNil, fYes, gAdd_i, gLt_i, gSub_i, gDiv_i, gMod_i, gGt_i, gLe_i, gGe_i, gInt_i, gNeg_i, gAbs_i, gMax_i, gMin_i, OD.val, valL, valL_st, fItS, fFor, fLc, wipeR, fPart, fNoPart, fSl, fAppend, fExtend, fPop, fGet2, fD1, fDNew, keyD, gSetQ, gSetI, gSetD, stK_map, fItR1, fLRg, List.getElem?_cons_succ, List.getElem?_cons_zero, List.set_cons_succ, List.set_cons_zero, List.length_cons, List.length_nil, List.map_cons, List.map_nil, Option.map_some, Option.map_none, Nat.zero_add, Nat.reduceAdd, Nat.reduceLT, Nat.reduceEqDiff, and_self, big0, big1, big2, big3, big4, big5, if_true, if_false, ite_true, ite_false, Bool.not_true, Bool.not_false, Bool.true_and, Bool.false_and]
    have eb : G2B [some o, some (.st (.lst (sD A))), x2, some (.st (.int p)), some (.ol ((sD P).map .st)), some (dO L), some (.st x), s7, none] = some (.nx [some o1, some (.st (.lst (sD A))), x2, some (.st (.int t.2.2)), some (.ol ((sD (P ++ [t])).map .st)), some (dO L), some (.st x), t7, none]) := by
      generalize hg : GoP = g at *
      generalize hf : G2L = f at *
      simp only [runM, outsOf, fSeq, fRet, fAsg, gN, fFz, fPeek, fBack, fDrop, fBin, fUn, fC, fCons, fNil, fLend, fCall, fCallK, pick, List.filterMap_cons, List.filterMap_nil, putBack, fIfS, fB, fNot, fAnd, fOr, fAndV, fOrV, fNext, fIf, fX, fLst, fTup, fMov, fPar, gs2, gs3, gT, gsCons, gsNil, fYes, gAdd_i, gLt_i, gSub_i, gDiv_i, gMod_i, gGt_i, gLe_i, gGe_i, gInt_i, gNeg_i, gAbs_i, gMax_i, gMin_i, OD.val, valL, valL_st, fItS, fFor, fLc, wipeR, fPart, fNoPart, fSl, fAppend, fExtend, fPop, fGet2, fD1, fDNew, keyD, gSetQ, gSetI, gSetD, stK_map, fItR1, fLRg, List.getElem?_cons_succ, List.getElem?_cons_zero, List.set_cons_succ, List.set_cons_zero, List.length_cons, List.length_nil, List.map_cons, List.map_nil, Option.map_some, Option.map_none, Nat.zero_add, Nat.reduceAdd, Nat.reduceLT, Nat.reduceEqDiff, and_self, big0, big1, big2, big3, big4, big5, if_true, if_false, ite_true, ite_false, Bool.not_true, Bool.not_false, Bool.true_and, Bool.false_and,G2B, hf, e1, hg, e3]
    unfold loopF
    simp only [g1, eb]
    exact h4
theorem gone_ok {n : Nat} {B : List Tri} (h : LnkOk n B) (hA : SLow (sT B)) {N : Int} (hs : 0 ≤ N ∧ N < (n : Int)) {o : OD} (hp : PotOk o) :
    ∃ P o', m_law_gone [o, .st (.lst (sD (sT B))), .st (.int N)] = some (.ol ((sD P).map .st), [some o', none, none]) ∧ PotOk o' ∧ (∀ t ∈ P, t ∈ sT B) ∧ P.length ≤ 31 := by
  have e1 := far_ok h hs
  have hF := sT_far h hs
  have hn := sT_len' h
  have hnn := h.n0
  have sy : ∀ a w b, (a, w, b) ∈ sT B → (b, w, a) ∈ sT B := fun a w b => sT_sym
  generalize farL (sT B) N = L at *
  generalize sT B = A at *
  obtain ⟨d0, o1, e2, d0a, d0b, hp1⟩ := draw_ok (n := 7) hp (by omega) (by omega)
  have lp := loopF_inv (tg := gN 6) (body := GoB)
    (I := fun i ρ => ∃ o h P s6 s7, PotOk o ∧ (∀ t ∈ P, t ∈ A) ∧ P.length ≤ i ∧ ρ = [some o, some (.st (.lst (sD A))), some (.st (.int N)), some (.st (.int h)), some (.ol ((sD P).map .st)), some (dO L), s6, s7, none])
    (ds := rngD 0 d0.toNat) (i := 0) (ρ := [some o1, some (.st (.lst (sD A))), some (.st (.int N)), some (.st (.int 0)), some (.ol []), some (dO L), none, none, none]) ⟨o1, 0, [], none, none, hp1, (fun _ z => nomatch z), Nat.le_refl _, rfl⟩ (by
      rintro j d ρ hd ⟨o, h0, P, s6, s7, hpo, hP, hl, rfl⟩
      have hj : j < 7 := by
        have := (List.getElem?_eq_some_iff.mp hd).1
        simp [rngD] at this
        omega
      obtain ⟨o', h', P', t7, hpo', e, hor⟩ := goB_ok hA (P := P) (by omega) (by omega) hpo (x2 := some (.st (.int N))) (x5 := some (dO L)) (x6 := some (.st d)) (x7 := s7) (h := h0)
      refine ⟨_, _, by simp only [runM, outsOf, fSeq, fRet, fAsg, gN, fFz, fPeek, fBack, fDrop, fBin, fUn, fC, fCons, fNil, fLend, fCall, fCallK, pick, List.filterMap_cons, List.filterMap_nil, putBack, fIfS, fB, fNot, fAnd, fOr, fAndV, fOrV, fNext, fIf, fX, fLst, fTup, fMov, fPar, gs2, gs3, gT, gsCons, gsNil, fYes, gAdd_i, gLt_i, gSub_i, gDiv_i, gMod_i, gGt_i, gLe_i, gGe_i, gInt_i, gNeg_i, gAbs_i, gMax_i, gMin_i, OD.val, valL, valL_st, fItS, fFor, fLc, wipeR, fPart, fNoPart, fSl, fAppend, fExtend, fPop, fGet2, fD1, fDNew, keyD, gSetQ, gSetI, gSetD, stK_map, fItR1, fLRg, List.getElem?_cons_succ, List.getElem?_cons_zero, List.set_cons_succ, List.set_cons_zero, List.length_cons, List.length_nil, List.map_cons, List.map_nil, Option.map_some, Option.map_none, Nat.zero_add, Nat.reduceAdd, Nat.reduceLT, Nat.reduceEqDiff, and_self, big0, big1, big2, big3, big4, big5, if_true, if_false, ite_true, ite_false, Bool.not_true, Bool.not_false, Bool.true_and, Bool.false_and], e, o', h', P', _, _, hpo', ?_, ?_, rfl⟩
      · rcases hor with rfl | ⟨t, ht, rfl⟩
        · exact hP
        · intro u hu
          rcases List.mem_append.mp hu with z | z
          · exact hP u z
          · have : u = t := by simpa using z
            rw [this]; exact ht
      · rcases hor with rfl | ⟨t, ht, rfl⟩
        · omega
        · simp; omega)
  obtain ⟨ρ', e3, o2, h2, P, s6, s7, hp2, hP, hl, rfl⟩ := lp
  have hl7 : P.length ≤ 6 := by simp [rngD] at hl; omega
  have c1 : -(2 ^ 62) ≤ d0 ∧ d0 < 2 ^ 62 := by omega
  have e0 : rho0 N_law_gone [o, .st (.lst (sD A)), .st (.int N)] = [some o, some (.st (.lst (sD A))), some (.st (.int N)), none, none, none, none, none, none] := rfl
  have eF : F_law_gone = (fSeq (fPar (fCons (fC (.int 0)) (fCons (fLst fNil) (fCons (fCall m_law_far (fCons (fFz (fP 1)) (fCons (fFz (fP 2)) fNil)) [none, none]) fNil))) (gsCons (gN 3) (gsCons (gN 4) (gsCons (gN 5) gsNil)))) (fSeq (fFor (fItR1 (fCons (fCall m_law_draw (fLend 0 (fCons (fC (.int 7)) fNil)) [some 0, none]) fNil)) (gN 6) GoB) (fSeq (fFor (fItR1 (fCons (fGet2 (fP 5) (fFz (fP 3)) (fC (.int 0))) fNil)) (gN 6) G2B) (fRet (fMov 4))))) := rfl
  -- how many turns more
  have key : ∃ m : Nat, m ≤ 25 ∧ ((look L h2 = none ∧ m = 0) ∨ (look L h2 = some (m : Int) ∧ (h2, (m : Int)) ∈ L)) := by
    cases hlk : look L h2 with
    | none => exact ⟨0, by omega, .inl ⟨rfl, rfl⟩⟩
    | some d =>
      obtain ⟨m, rfl, hm, hmn⟩ := look_nat hF hlk
      exact ⟨m, by omega, .inr ⟨rfl, hm⟩⟩
  obtain ⟨m, hm25, hk⟩ := key
  have eg : fGet2 (fP 5) (fFz (fP 3)) (fC (.int 0)) [some o2, some (.st (.lst (sD A))), some (.st (.int N)), some (.st (.int h2)), some (.ol ((sD P).map .st)), some (dO L), s6, s7, none] = some (.st (.int (m : Int)), [some o2, some (.st (.lst (sD A))), some (.st (.int N)), some (.st (.int h2)), some (.ol ((sD P).map .st)), some (dO L), s6, s7, none]) := by
    have hv := val_dk h2 L
    rcases hk with ⟨hk, rfl⟩ | ⟨hk, _⟩
    · rw [hk] at hv
      simp only [runM, outsOf, fSeq, fRet, fAsg, gN, fFz, fPeek, fBack, fDrop, fBin, fUn, fC, fCons, fNil, fLend, fCall, fCallK, pick, List.filterMap_cons, List.filterMap_nil, putBack, fIfS, fB, fNot, fAnd, fOr, fAndV, fOrV, fNext, fIf, fX, fLst, fTup, fMov, fPar, gs2, gs3, gT, gsCons, gsNil, fYes, gAdd_i, gLt_i, gSub_i, gDiv_i, gMod_i, gGt_i, gLe_i, gGe_i, gInt_i, gNeg_i, gAbs_i, gMax_i, gMin_i, OD.val, valL, valL_st, fItS, fFor, fLc, wipeR, fPart, fNoPart, fSl, fAppend, fExtend, fPop, fGet2, fD1, fDNew, keyD, gSetQ, gSetI, gSetD, stK_map, fItR1, fLRg, List.getElem?_cons_succ, List.getElem?_cons_zero, List.set_cons_succ, List.set_cons_zero, List.length_cons, List.length_nil, List.map_cons, List.map_nil, Option.map_some, Option.map_none, Nat.zero_add, Nat.reduceAdd, Nat.reduceLT, Nat.reduceEqDiff, and_self, big0, big1, big2, big3, big4, big5, if_true, if_false, ite_true, ite_false, Bool.not_true, Bool.not_false, Bool.true_and, Bool.false_and,rd_dk, hv]
      rfl
    · rw [hk] at hv
      simp only [runM, outsOf, fSeq, fRet, fAsg, gN, fFz, fPeek, fBack, fDrop, fBin, fUn, fC, fCons, fNil, fLend, fCall, fCallK, pick, List.filterMap_cons, List.filterMap_nil, putBack, fIfS, fB, fNot, fAnd, fOr, fAndV, fOrV, fNext, fIf, fX, fLst, fTup, fMov, fPar, gs2, gs3, gT, gsCons, gsNil, fYes, gAdd_i, gLt_i, gSub_i, gDiv_i, gMod_i, gGt_i, gLe_i, gGe_i, gInt_i, gNeg_i, gAbs_i, gMax_i, gMin_i, OD.val, valL, valL_st, fItS, fFor, fLc, wipeR, fPart, fNoPart, fSl, fAppend, fExtend, fPop, fGet2, fD1, fDNew, keyD, gSetQ, gSetI, gSetD, stK_map, fItR1, fLRg, List.getElem?_cons_succ, List.getElem?_cons_zero, List.set_cons_succ, List.set_cons_zero, List.length_cons, List.length_nil, List.map_cons, List.map_nil, Option.map_some, Option.map_none, Nat.zero_add, Nat.reduceAdd, Nat.reduceLT, Nat.reduceEqDiff, and_self, big0, big1, big2, big3, big4, big5, if_true, if_false, ite_true, ite_false, Bool.not_true, Bool.not_false, Bool.true_and, Bool.false_and,rd_dk, hv]
  have l2 : ∃ o' P' t3 t6 t7, PotOk o' ∧ (∀ t ∈ P', t ∈ A) ∧ P'.length = P.length + m ∧ loopF (gN 6) G2B (rngD 0 m) [some o2, some (.st (.lst (sD A))), some (.st (.int N)), some (.st (.int h2)), some (.ol ((sD P).map .st)), some (dO L), s6, s7, none] = some (.nx [some o', some (.st (.lst (sD A))), some (.st (.int N)), t3, some (.ol ((sD P').map .st)), some (dO L), t6, t7, none]) := by
    rcases hk with ⟨hk, rfl⟩ | ⟨hk, hm⟩
    · exact ⟨o2, P, _, _, _, hp2, hP, rfl, rfl⟩
    · exact g2F_ok hF sy (by omega) m (rngD 0 m) h2 P o2 s6 s7 (by simp [rngD]) hm (by omega) hp2 hP
  obtain ⟨o3, P', t3, t6, t7, hp3, hP', hl', e5⟩ := l2
  refine ⟨P', o3, ?_, hp3, hP', by omega⟩
  generalize hM : (m : Int) = M at *
  have c2 : -(2 ^ 62) ≤ M ∧ M < 2 ^ 62 := by omega
  have t2 : M.toNat = m := by omega
  have eg' : fItR1 (fCons (fGet2 (fP 5) (fFz (fP 3)) (fC (.int 0))) fNil) [some o2, some (.st (.lst (sD A))), some (.st (.int N)), some (.st (.int h2)), some (.ol ((sD P).map .st)), some (dO L), s6, s7, none] = some (rngD 0 m, [some o2, some (.st (.lst (sD A))), some (.st (.int N)), some (.st (.int h2)), some (.ol ((sD P).map .st)), some (dO L), s6, s7, none]) := by
    unfold fItR1 fCons
    rw [eg]
    simp only [fNil, if_pos c2, t2]
  generalize hg2 : G2B = g2 at *
  generalize hgb : GoB = gb at *
  have e6 : fFor (fItR1 (fCons (fGet2 (fP 5) (fFz (fP 3)) (fC (.int 0))) fNil)) (gN 6) g2 [some o2, some (.st (.lst (sD A))), some (.st (.int N)), some (.st (.int h2)), some (.ol ((sD P).map .st)), some (dO L), s6, s7, none] = some (.nx [some o3, some (.st (.lst (sD A))), some (.st (.int N)), t3, some (.ol ((sD P').map .st)), some (dO L), t6, t7, none]) := by
    unfold fFor
    rw [eg']
    exact e5
  have e7 : fFor (fItR1 (fCons (fCall m_law_draw (fLend 0 (fCons (fC (.int 7)) fNil)) [some 0, none]) fNil)) (gN 6) gb [some o, some (.st (.lst (sD A))), some (.st (.int N)), some (.st (.int 0)), some (.ol []), some (dO L), none, none, none] = some (.nx [some o2, some (.st (.lst (sD A))), some (.st (.int N)), some (.st (.int h2)), some (.ol ((sD P).map .st)), some (dO L), s6, s7, none]) := by
    obtain ⟨pp, qq, rfl, _⟩ := hp
    simp only [runM, outsOf, fSeq, fRet, fAsg, gN, fFz, fPeek, fBack, fDrop, fBin, fUn, fC, fCons, fNil, fLend, fCall, fCallK, pick, List.filterMap_cons, List.filterMap_nil, putBack, fIfS, fB, fNot, fAnd, fOr, fAndV, fOrV, fNext, fIf, fX, fLst, fTup, fMov, fPar, gs2, gs3, gT, gsCons, gsNil, fYes, gAdd_i, gLt_i, gSub_i, gDiv_i, gMod_i, gGt_i, gLe_i, gGe_i, gInt_i, gNeg_i, gAbs_i, gMax_i, gMin_i, OD.val, valL, valL_st, fItS, fFor, fLc, wipeR, fPart, fNoPart, fSl, fAppend, fExtend, fPop, fGet2, fD1, fDNew, keyD, gSetQ, gSetI, gSetD, stK_map, fItR1, fLRg, List.getElem?_cons_succ, List.getElem?_cons_zero, List.set_cons_succ, List.set_cons_zero, List.length_cons, List.length_nil, List.map_cons, List.map_nil, Option.map_some, Option.map_none, Nat.zero_add, Nat.reduceAdd, Nat.reduceLT, Nat.reduceEqDiff, and_self, big0, big1, big2, big3, big4, big5, if_true, if_false, ite_true, ite_false, Bool.not_true, Bool.not_false, Bool.true_and, Bool.false_and,e2, c1, e3]
  have e8 : fPar (fCons (fC (.int 0)) (fCons (fLst fNil) (fCons (fCall m_law_far (fCons (fFz (fP 1)) (fCons (fFz (fP 2)) fNil)) [none, none]) fNil))) (gsCons (gN 3) (gsCons (gN 4) (gsCons (gN 5) gsNil))) [some o, some (.st (.lst (sD A))), some (.st (.int N)), none, none, none, none, none, none] = some (.nx [some o, some (.st (.lst (sD A))), some (.st (.int N)), some (.st (.int 0)), some (.ol []), some (dO L), none, none, none]) := by
    simp only [runM, outsOf, fSeq, fRet, fAsg, gN, fFz, fPeek, fBack, fDrop, fBin, fUn, fC, fCons, fNil, fLend, fCall, fCallK, pick, List.filterMap_cons, List.filterMap_nil, putBack, fIfS, fB, fNot, fAnd, fOr, fAndV, fOrV, fNext, fIf, fX, fLst, fTup, fMov, fPar, gs2, gs3, gT, gsCons, gsNil, fYes, gAdd_i, gLt_i, gSub_i, gDiv_i, gMod_i, gGt_i, gLe_i, gGe_i, gInt_i, gNeg_i, gAbs_i, gMax_i, gMin_i, OD.val, valL, valL_st, fItS, fFor, fLc, wipeR, fPart, fNoPart, fSl, fAppend, fExtend, fPop, fGet2, fD1, fDNew, keyD, gSetQ, gSetI, gSetD, stK_map, fItR1, fLRg, List.getElem?_cons_succ, List.getElem?_cons_zero, List.set_cons_succ, List.set_cons_zero, List.length_cons, List.length_nil, List.map_cons, List.map_nil, Option.map_some, Option.map_none, Nat.zero_add, Nat.reduceAdd, Nat.reduceLT, Nat.reduceEqDiff, and_self, big0, big1, big2, big3, big4, big5, if_true, if_false, ite_true, ite_false, Bool.not_true, Bool.not_false, Bool.true_and, Bool.false_and,e1]
  rw [m_law_gone, runM, eF, e0]
  simp only [fSeq, e8, e7, e6]
  simp only [runM, outsOf, fSeq, fRet, fAsg, gN, fFz, fPeek, fBack, fDrop, fBin, fUn, fC, fCons, fNil, fLend, fCall, fCallK, pick, List.filterMap_cons, List.filterMap_nil, putBack, fIfS, fB, fNot, fAnd, fOr, fAndV, fOrV, fNext, fIf, fX, fLst, fTup, fMov, fPar, gs2, gs3, gT, gsCons, gsNil, fYes, gAdd_i, gLt_i, gSub_i, gDiv_i, gMod_i, gGt_i, gLe_i, gGe_i, gInt_i, gNeg_i, gAbs_i, gMax_i, gMin_i, OD.val, valL, valL_st, fItS, fFor, fLc, wipeR, fPart, fNoPart, fSl, fAppend, fExtend, fPop, fGet2, fD1, fDNew, keyD, gSetQ, gSetI, gSetD, stK_map, fItR1, fLRg, List.getElem?_cons_succ, List.getElem?_cons_zero, List.set_cons_succ, List.set_cons_zero, List.length_cons, List.length_nil, List.map_cons, List.map_nil, Option.map_some, Option.map_none, Nat.zero_add, Nat.reduceAdd, Nat.reduceLT, Nat.reduceEqDiff, and_self, big0, big1, big2, big3, big4, big5, if_true, if_false, ite_true, ite_false, Bool.not_true, Bool.not_false, Bool.true_and, Bool.false_and]
end Lw
set_option Elab.async false
set_option linter.all false
set_option maxRecDepth 100000
set_option maxHeartbeats 400000
namespace Lw
open PySem L2 Qy
theorem big6 : (6 ≤ big) = True := eq_true (by decide)
theorem big7 : (7 ≤ big) = True := eq_true (by decide)
theorem big10 : (10 ≤ big) = True := eq_true (by decide)
theorem big14 : (14 ≤ big) = True := eq_true (by decide)
theorem sl_to {ds : List D} {k : Nat} {K : Int} (h : K = (k : Int)) : gSl (.st (.lst ds)) none (some K) = some (.ol ((ds.take k).map .st)) := by
  subst h
  unfold gSl
  simp only [OD.rd]
  rw [cutD_take]
theorem sl_from {ds : List D} {k : Nat} {K : Int} (h : K = (k : Int)) : gSl (.st (.lst ds)) (some K) none = some (.ol ((ds.drop k).map .st)) := by
  subst h
  unfold gSl
  simp only [OD.rd]
  congr 3
  unfold cutD
  have e1 : HT.sIx ds.length 0 (some (k : Int)) = min k ds.length := by rw [HT.sIx_nat]
  have e2 : HT.sIx ds.length ds.length none = ds.length := rfl
  rw [e1, e2]
  by_cases hk : k ≤ ds.length
  · rw [Nat.min_eq_left hk, List.take_of_length_le (by simp)]
  · rw [Nat.min_eq_right (by omega), List.drop_eq_nil_of_le (Nat.le_refl _), List.drop_eq_nil_of_le (by omega)]
    simp
theorem cat_ll {xs ys : List D} (h : xs.length + ys.length ≤ 1000) : gAdd (.ol (xs.map .st)) (.ol (ys.map .st)) = some (.ol ((xs ++ ys).map .st)) := gAdd_l (rd_ol _) (rd_ol _) (by unfold big; omega)
/-- one of the kinds -/
theorem bk_t {c i : Int} (h : c = i) {ρ ρ' : Rho} {b rest : Fs} {o : OD} (hρ : ρ[3]? = some (some (.st (.int c)))) (hb : b ρ = some (.rt o ρ')) : fSeq (fIfS (fB (fBin gEq (fP 3) (fE (fC (.int i))))) b fNext) rest ρ = some (.rt o ρ') := by
  have e : gEq (.st (.int c)) (.st (.int i)) = some (.st (.bl true)) := by rw [eqI]; simp [h]
  have es : ρ.set 3 (some (.st (.int c))) = ρ := Qy.set_self ρ 3 _ hρ
  simp only [fSeq, fIfS, fB, fBin, fP, fE, fC, fPeek, fBack, fDrop, hρ, e, es, hb]
theorem bk_f {c i : Int} (h : c ≠ i) {ρ : Rho} {b rest : Fs} (hρ : ρ[3]? = some (some (.st (.int c)))) : fSeq (fIfS (fB (fBin gEq (fP 3) (fE (fC (.int i))))) b fNext) rest ρ = rest ρ := by
  have e : gEq (.st (.int c)) (.st (.int i)) = some (.st (.bl false)) := by rw [eqI]; simp [h]
  have es : ρ.set 3 (some (.st (.int c))) = ρ := Qy.set_self ρ 3 _ hρ
  simp only [fSeq, fIfS, fB, fBin, fP, fE, fC, fPeek, fBack, fDrop, hρ, e, es, fNext]
abbrev preF : Fe := (fSl (fP 2) fNoPart (fPart (fFz (fP 4))))
abbrev post1F : Fe := (fSl (fP 2) (fPart (fBin gAdd (fP 4) (fE (fC (.int 1))))) fNoPart)
abbrev post0F : Fe := (fSl (fP 2) (fPart (fFz (fP 4))) fNoPart)
/-- the state in which a kind is told -/
abbrev bS (o : OD) (A P : List Stp) (c k : Int) (t : Stp) : Rho := [some o, some (.st (.lst (sD A))), some (.st (.lst (sD P))), some (.st (.int c)), some (.st (.int k)), some (.st (stp t)), none, none]
theorem pre_ok {o : OD} {A P : List Stp} {c : Int} {k : Nat} {K : Int} {t : Stp} {x6 x7 : Option OD} (hK : K = (k : Int)) : preF [some o, some (.st (.lst (sD A))), some (.st (.lst (sD P))), some (.st (.int c)), some (.st (.int K)), some (.st (stp t)), x6, x7] = some (.ol ((sD (P.take k)).map .st), [some o, some (.st (.lst (sD A))), some (.st (.lst (sD P))), some (.st (.int c)), some (.st (.int K)), some (.st (stp t)), x6, x7]) := by
  have e := sl_to (ds := sD P) hK
  rw [← List.map_take] at e
  simp only [runM, outsOf, fSeq, fRet, fAsg, gN, fFz, fPeek, fBack, fDrop, fBin, fUn, fC, fCons, fNil, fLend, fCall, fCallK, pick, List.filterMap_cons, List.filterMap_nil, putBack, fIfS, fB, fNot, fAnd, fOr, fAndV, fOrV, fNext, fIf, fX, fLst, fTup, fMov, fPar, gs2, gs3, gT, gsCons, gsNil, fYes, gAdd_i, gLt_i, gSub_i, gDiv_i, gMod_i, gGt_i, gLe_i, gGe_i, gInt_i, gNeg_i, gAbs_i, gMax_i, gMin_i, OD.val, valL, valL_st, fItS, fFor, fLc, wipeR, fPart, fNoPart, fSl, fAppend, fExtend, fPop, fGet2, fD1, fDNew, keyD, gSetQ, gSetI, gSetD, stK_map, fItR1, fLRg, List.getElem?_cons_succ, List.getElem?_cons_zero, List.set_cons_succ, List.set_cons_zero, List.length_cons, List.length_nil, List.map_cons, List.map_nil, Option.map_some, Option.map_none, Nat.zero_add, Nat.reduceAdd, Nat.reduceLT, Nat.reduceEqDiff, and_self, big0, big1, big2, big3, big4, big5, if_true, if_false, ite_true, ite_false, Bool.not_true, Bool.not_false, Bool.true_and, Bool.false_and,e]
theorem post1_ok {o : OD} {A P : List Stp} {c : Int} {k : Nat} {K : Int} {t : Stp} {x6 x7 : Option OD} (hK : K = (k : Int)) : post1F [some o, some (.st (.lst (sD A))), some (.st (.lst (sD P))), some (.st (.int c)), some (.st (.int K)), some (.st (stp t)), x6, x7] = some (.ol ((sD (P.drop (k + 1))).map .st), [some o, some (.st (.lst (sD A))), some (.st (.lst (sD P))), some (.st (.int c)), some (.st (.int K)), some (.st (stp t)), x6, x7]) := by
  have e := sl_from (ds := sD P) (k := k + 1) (K := K + 1) (by omega)
  rw [← List.map_drop] at e
  simp only [runM, outsOf, fSeq, fRet, fAsg, gN, fFz, fPeek, fBack, fDrop, fBin, fUn, fC, fCons, fNil, fLend, fCall, fCallK, pick, List.filterMap_cons, List.filterMap_nil, putBack, fIfS, fB, fNot, fAnd, fOr, fAndV, fOrV, fNext, fIf, fX, fLst, fTup, fMov, fPar, gs2, gs3, gT, gsCons, gsNil, fYes, gAdd_i, gLt_i, gSub_i, gDiv_i, gMod_i, gGt_i, gLe_i, gGe_i, gInt_i, gNeg_i, gAbs_i, gMax_i, gMin_i, OD.val, valL, valL_st, fItS, fFor, fLc, wipeR, fPart, fNoPart, fSl, fAppend, fExtend, fPop, fGet2, fD1, fDNew, keyD, gSetQ, gSetI, gSetD, stK_map, fItR1, fLRg, List.getElem?_cons_succ, List.getElem?_cons_zero, List.set_cons_succ, List.set_cons_zero, List.length_cons, List.length_nil, List.map_cons, List.map_nil, Option.map_some, Option.map_none, Nat.zero_add, Nat.reduceAdd, Nat.reduceLT, Nat.reduceEqDiff, and_self, big0, big1, big2, big3, big4, big5, if_true, if_false, ite_true, ite_false, Bool.not_true, Bool.not_false, Bool.true_and, Bool.false_and,e]
theorem post0_ok {o : OD} {A P : List Stp} {c : Int} {k : Nat} {K : Int} {t : Stp} {x6 x7 : Option OD} (hK : K = (k : Int)) : post0F [some o, some (.st (.lst (sD A))), some (.st (.lst (sD P))), some (.st (.int c)), some (.st (.int K)), some (.st (stp t)), x6, x7] = some (.ol ((sD (P.drop k)).map .st), [some o, some (.st (.lst (sD A))), some (.st (.lst (sD P))), some (.st (.int c)), some (.st (.int K)), some (.st (stp t)), x6, x7]) := by
  have e := sl_from (ds := sD P) (k := k) hK
  rw [← List.map_drop] at e
  simp only [runM, outsOf, fSeq, fRet, fAsg, gN, fFz, fPeek, fBack, fDrop, fBin, fUn, fC, fCons, fNil, fLend, fCall, fCallK, pick, List.filterMap_cons, List.filterMap_nil, putBack, fIfS, fB, fNot, fAnd, fOr, fAndV, fOrV, fNext, fIf, fX, fLst, fTup, fMov, fPar, gs2, gs3, gT, gsCons, gsNil, fYes, gAdd_i, gLt_i, gSub_i, gDiv_i, gMod_i, gGt_i, gLe_i, gGe_i, gInt_i, gNeg_i, gAbs_i, gMax_i, gMin_i, OD.val, valL, valL_st, fItS, fFor, fLc, wipeR, fPart, fNoPart, fSl, fAppend, fExtend, fPop, fGet2, fD1, fDNew, keyD, gSetQ, gSetI, gSetD, stK_map, fItR1, fLRg, List.getElem?_cons_succ, List.getElem?_cons_zero, List.set_cons_succ, List.set_cons_zero, List.length_cons, List.length_nil, List.map_cons, List.map_nil, Option.map_some, Option.map_none, Nat.zero_add, Nat.reduceAdd, Nat.reduceLT, Nat.reduceEqDiff, and_self, big0, big1, big2, big3, big4, big5, if_true, if_false, ite_true, ite_false, Bool.not_true, Bool.not_false, Bool.true_and, Bool.false_and,e]
/-- pre + [mid] + post -/
theorem put_mid {pre post mid : Fe} {ρ ρ1 : Rho} {X Y Z : List D} (h1 : pre ρ = some (.ol (X.map .st), ρ)) (h2 : mid ρ = some (.ol (Y.map .st), ρ1)) (h3 : post ρ1 = some (.ol (Z.map .st), ρ1)) (hl : X.length + Y.length + Z.length ≤ 1000) :
    (fRet (fBin gAdd (fE (fBin gAdd (fE pre) (fE mid))) (fE post))) ρ = some (.rt (.ol ((X ++ Y ++ Z).map .st)) ρ1) := by
  have e1 := cat_ll (xs := X) (ys := Y) (by omega)
  have e2 := cat_ll (xs := X ++ Y) (ys := Z) (by simp; omega)
  simp only [fRet, fBin, fE, h1, h2, e1, fDrop, h3, e2]
theorem put_two {pre post : Fe} {ρ : Rho} {X Z : List D} (h1 : pre ρ = some (.ol (X.map .st), ρ)) (h3 : post ρ = some (.ol (Z.map .st), ρ)) (hl : X.length + Z.length ≤ 1000) :
    (fRet (fBin gAdd (fE pre) (fE post))) ρ = some (.rt (.ol ((X ++ Z).map .st)) ρ) := by
  have e1 := cat_ll (xs := X) (ys := Z) hl
  simp only [fRet, fBin, fE, h1, h3, e1, fDrop]
noncomputable def OdA : Fs := (fAsg (fLst (fCons (fC .non) (fCons (fC (.int 0)) (fCons (fC (.str "")) (fCons (fBin gIx (fP 5) (fE (fC (.int 1)))) (fCons (fFz (fE (fSl (fP 5) fNoPart (fPart (fC (.int 2)))))) (fCons (fTup (fCons (fC (.bl true)) (fCons (fBin gIx (fP 5) (fE (fC (.int 1)))) (fCons (fBin gIx (fP 5) (fE (fC (.int 2)))) fNil)))) (fCons (fTup (fCons (fBin gIx (fP 5) (fE (fC (.int 0)))) (fCons (fBin gIx (fP 5) (fE (fC (.int 1)))) (fCons (fC (.bl true)) fNil)))) fNil)))))))) (gN 6))
noncomputable def OdB : Fs := (fX (fExtend 6 (fLst (fCons (fTup (fCons (fBin gIx (fP 5) (fE (fC (.int 0)))) (fCons (fBin gIx (fP 5) (fE (fC (.int 1)))) (fCons (fC .non) fNil)))) (fCons (fTup (fCons (fBin gIx (fP 5) (fE (fC (.int 0)))) (fCons (fBin gIx (fP 5) (fE (fC (.int 1)))) (fCons (fUn gStrI (fE (fBin gIx (fP 5) (fE (fC (.int 2)))))) fNil)))) (fCons (fTup (fCons (fBin gIx (fP 5) (fE (fC (.int 0)))) (fCons (fLst (fCons (fBin gIx (fP 5) (fE (fC (.int 1)))) fNil)) (fCons (fBin gIx (fP 5) (fE (fC (.int 2)))) fNil)))) fNil))))))
noncomputable def OdP : Fs := (fAsg (fCall m_law_pick (fLend 0 (fCons (fFz (fE (fBin gAdd (fP 6) (fE (fLst (fCons (fFz (fE (fBin gCatT (fE (fTup (fCons (fC (.bl false)) fNil))) (fE (fSl (fP 5) (fPart (fC (.int 1))) fNoPart))))) fNil)))))) fNil)) [some 0, none]) (gN 7))
abbrev od7 (t : Stp) : List D := [.non, .int 0, .str "", .str t.2.1, .tup [.int t.1, .str t.2.1], .tup [.bl true, .str t.2.1, .int t.2.2], .tup [.int t.1, .str t.2.1, .bl true]]
abbrev od3 (t : Stp) : List D := [.tup [.int t.1, .str t.2.1, .non], .tup [.int t.1, .str t.2.1, .str (toString t.2.2)], .tup [.int t.1, .lst [.str t.2.1], .int t.2.2]]
theorem ix_s1 (s : Stp) : gIx (.st (stp s)) (.st (.int 1)) = some (.st (.str s.2.1)) := rfl
theorem odd_ok {o : OD} {A P : List Stp} {c K : Int} {t : Stp} (hp : PotOk o) (ht : Itm (stp t)) (hb : Pl t.2.2) :
    ∃ d o', Itm d ∧ PotOk o' ∧ fSeq OdA (fSeq OdB OdP) (bS o A P c K t) = some (.nx [some o', some (.st (.lst (sD A))), some (.st (.lst (sD P))), some (.st (.int c)), some (.st (.int K)), some (.st (stp t)), some (.ol ((od7 t ++ od3 t).map .st)), some (.st d)]) := by
  have hw : Pl t.1 ∧ Wd t.2.1 ∧ Pl t.2.2 := by
    cases ht with
    | stp a b c => exact ⟨a, b, c⟩
  obtain ⟨h1, h2, h3⟩ := hw
  have s2 : gSl (.st (stp t)) none (some 2) = some (.st (.tup [.int t.1, .str t.2.1])) := rfl
  have s1 : gSl (.st (stp t)) (some 1) none = some (.st (.tup [.str t.2.1, .int t.2.2])) := rfl
  have e1 : OdA (bS o A P c K t) = some (.nx [some o, some (.st (.lst (sD A))), some (.st (.lst (sD P))), some (.st (.int c)), some (.st (.int K)), some (.st (stp t)), some (.ol ((od7 t).map .st)), none]) := by
    simp only [runM, outsOf, fSeq, fRet, fAsg, gN, fFz, fPeek, fBack, fDrop, fBin, fUn, fC, fCons, fNil, fLend, fCall, fCallK, pick, List.filterMap_cons, List.filterMap_nil, putBack, fIfS, fB, fNot, fAnd, fOr, fAndV, fOrV, fNext, fIf, fX, fLst, fTup, fMov, fPar, gs2, gs3, gT, gsCons, gsNil, fYes, gAdd_i, gLt_i, gSub_i, gDiv_i, gMod_i, gGt_i, gLe_i, gGe_i, gInt_i, gNeg_i, gAbs_i, gMax_i, gMin_i, OD.val, valL, valL_st, fItS, fFor, fLc, wipeR, fPart, fNoPart, fSl, fAppend, fExtend, fPop, fGet2, fD1, fDNew, keyD, gSetQ, gSetI, gSetD, stK_map, fItR1, fLRg, List.getElem?_cons_succ, List.getElem?_cons_zero, List.set_cons_succ, List.set_cons_zero, List.length_cons, List.length_nil, List.map_cons, List.map_nil, Option.map_some, Option.map_none, Nat.zero_add, Nat.reduceAdd, Nat.reduceLT, Nat.reduceEqDiff, and_self, big0, big1, big2, big3, big4, big5, if_true, if_false, ite_true, ite_false, Bool.not_true, Bool.not_false, Bool.true_and, Bool.false_and,OdA, ix_s0, ix_s1, ix_s2, s2, big6, big7]
  have st : gStrI (.st (.int t.2.2)) = some (.st (.str (toString t.2.2))) := by
    show (if t.2.2.natAbs < 1000000 then some (OD.st (.str (toString t.2.2))) else none) = _
    rw [if_pos (by omega)]
  have e2 : OdB [some o, some (.st (.lst (sD A))), some (.st (.lst (sD P))), some (.st (.int c)), some (.st (.int K)), some (.st (stp t)), some (.ol ((od7 t).map .st)), none] = some (.nx [some o, some (.st (.lst (sD A))), some (.st (.lst (sD P))), some (.st (.int c)), some (.st (.int K)), some (.st (stp t)), some (.ol ((od7 t ++ od3 t).map .st)), none]) := by
    simp only [runM, outsOf, fSeq, fRet, fAsg, gN, fFz, fPeek, fBack, fDrop, fBin, fUn, fC, fCons, fNil, fLend, fCall, fCallK, pick, List.filterMap_cons, List.filterMap_nil, putBack, fIfS, fB, fNot, fAnd, fOr, fAndV, fOrV, fNext, fIf, fX, fLst, fTup, fMov, fPar, gs2, gs3, gT, gsCons, gsNil, fYes, gAdd_i, gLt_i, gSub_i, gDiv_i, gMod_i, gGt_i, gLe_i, gGe_i, gInt_i, gNeg_i, gAbs_i, gMax_i, gMin_i, OD.val, valL, valL_st, fItS, fFor, fLc, wipeR, fPart, fNoPart, fSl, fAppend, fExtend, fPop, fGet2, fD1, fDNew, keyD, gSetQ, gSetI, gSetD, stK_map, fItR1, fLRg, List.getElem?_cons_succ, List.getElem?_cons_zero, List.set_cons_succ, List.set_cons_zero, List.length_cons, List.length_nil, List.map_cons, List.map_nil, Option.map_some, Option.map_none, Nat.zero_add, Nat.reduceAdd, Nat.reduceLT, Nat.reduceEqDiff, and_self, big0, big1, big2, big3, big4, big5, if_true, if_false, ite_true, ite_false, Bool.not_true, Bool.not_false, Bool.true_and, Bool.false_and,OdB, ix_s0, ix_s1, ix_s2, st, big10, List.cons_append, List.nil_append, OD.rd, stAll]
  have ct : gCatT (.st (.tup [.bl false])) (.st (.tup [.str t.2.1, .int t.2.2])) = some (.st (.tup [.bl false, .str t.2.1, .int t.2.2])) := by
    unfold gCatT
    simp [big]
  have ca := cat_ll (xs := od7 t ++ od3 t) (ys := [.tup [.bl false, .str t.2.1, .int t.2.2]]) (by simp)
  obtain ⟨d, o', hd, e4, hp'⟩ := pick_ok (ds := od7 t ++ od3 t ++ [.tup [.bl false, .str t.2.1, .int t.2.2]]) hp (by simp) (by simp)
  refine ⟨d, o', ?_, hp', ?_⟩
  · have hd' : d ∈ od7 t ∨ d ∈ od3 t ∨ d = .tup [.bl false, .str t.2.1, .int t.2.2] := by
      rcases List.mem_append.mp hd with z | z
      · rcases List.mem_append.mp z with z | z
        · exact .inl z
        · exact .inr (.inl z)
      · exact .inr (.inr (by simpa using z))
    rcases hd' with z | z | rfl
    · simp only [od7, List.mem_cons, List.not_mem_nil, or_false] at z
      rcases z with rfl | rfl | rfl | rfl | rfl | rfl | rfl
      · exact .non
      · exact .int0
      · exact .str ⟨(fun c hc => by
          have hc' : c ∈ ([] : List Nat) := hc
          cases hc'), by decide +kernel⟩
      · exact .str h2
      · exact .two h1 h2
      · exact .bl0 h2 h3
      · exact .bl2 h1 h2
    · simp only [od3, List.mem_cons, List.not_mem_nil, or_false] at z
      rcases z with rfl | rfl | rfl
      · exact .non2 h1 h2
      · exact .str2 h1 h2 h3
      · exact .lst1 h1 h2 h3
    · exact .bl0 h2 h3
  · have e3 : OdP [some o, some (.st (.lst (sD A))), some (.st (.lst (sD P))), some (.st (.int c)), some (.st (.int K)), some (.st (stp t)), some (.ol ((od7 t ++ od3 t).map .st)), none] = some (.nx [some o', some (.st (.lst (sD A))), some (.st (.lst (sD P))), some (.st (.int c)), some (.st (.int K)), some (.st (stp t)), some (.ol ((od7 t ++ od3 t).map .st)), some (.st d)]) := by
      generalize od7 t ++ od3 t = W at *
      obtain ⟨pp, qq, rfl, _⟩ := hp
      simp only [List.map_cons, List.map_nil] at ca
      simp only [runM, outsOf, fSeq, fRet, fAsg, gN, fFz, fPeek, fBack, fDrop, fBin, fUn, fC, fCons, fNil, fLend, fCall, fCallK, pick, List.filterMap_cons, List.filterMap_nil, putBack, fIfS, fB, fNot, fAnd, fOr, fAndV, fOrV, fNext, fIf, fX, fLst, fTup, fMov, fPar, gs2, gs3, gT, gsCons, gsNil, fYes, gAdd_i, gLt_i, gSub_i, gDiv_i, gMod_i, gGt_i, gLe_i, gGe_i, gInt_i, gNeg_i, gAbs_i, gMax_i, gMin_i, OD.val, valL, valL_st, fItS, fFor, fLc, wipeR, fPart, fNoPart, fSl, fAppend, fExtend, fPop, fGet2, fD1, fDNew, keyD, gSetQ, gSetI, gSetD, stK_map, fItR1, fLRg, List.getElem?_cons_succ, List.getElem?_cons_zero, List.set_cons_succ, List.set_cons_zero, List.length_cons, List.length_nil, List.map_cons, List.map_nil, Option.map_some, Option.map_none, Nat.zero_add, Nat.reduceAdd, Nat.reduceLT, Nat.reduceEqDiff, and_self, big0, big1, big2, big3, big4, big5, if_true, if_false, ite_true, ite_false, Bool.not_true, Bool.not_false, Bool.true_and, Bool.false_and,OdP, s1, ct, ca, e4]
    simp only [fSeq, e1, e2, e3]
end Lw
set_option Elab.async false
set_option linter.all false
set_option maxRecDepth 100000
set_option maxHeartbeats 400000
namespace Lw
open PySem L2 Qy
noncomputable def b0 : Fs := (fRet (fBin gAdd (fE preF) (fE post1F)))
noncomputable def b1 : Fs := (fRet (fBin gAdd (fE (fBin gAdd (fE preF) (fE (fLst (fCons (fFz (fP 5)) fNil))))) (fE post0F)))
noncomputable def b2 : Fs := (fRet (fBin gAdd (fE (fBin gAdd (fE preF) (fE (fLst (fCons (fFz (fE (fUn gRev3 (fP 5)))) fNil))))) (fE post1F)))
noncomputable def b3 : Fs := (fRet (fBin gAdd (fE (fBin gAdd (fE preF) (fE (fLst (fCons (fFz (fP 5)) (fCons (fFz (fE (fUn gRev3 (fP 5)))) fNil)))))) (fE post0F)))
noncomputable def b4 : Fs := (fRet (fBin gAdd (fE (fBin gAdd (fE preF) (fE (fLst (fCons (fFz (fE (fUn gList (fP 5)))) fNil))))) (fE post1F)))
noncomputable def b5 : Fs := (fRet (fBin gAdd (fE (fBin gAdd (fE preF) (fE (fLst (fCons (fTup (fCons (fBin gIx (fP 5) (fE (fC (.int 0)))) (fCons (fBin gAdd (fE (fBin gIx (fP 5) (fE (fC (.int 1))))) (fE (fC (.str "a")))) (fCons (fBin gIx (fP 5) (fE (fC (.int 2)))) fNil)))) fNil))))) (fE post1F)))
noncomputable def b6 : Fs := (fRet (fBin gAdd (fE (fBin gAdd (fE preF) (fE (fLst (fCons (fTup (fCons (fBin gIx (fP 5) (fE (fC (.int 0)))) (fCons (fBin gIx (fP 5) (fE (fC (.int 1)))) (fCons (fBin gAdd (fE (fBin gIx (fP 5) (fE (fC (.int 2))))) (fE (fC (.int 1)))) fNil)))) fNil))))) (fE post1F)))
noncomputable def b7 : Fs := (fRet (fBin gAdd (fE (fBin gAdd (fE preF) (fE (fLst (fCons (fFz (fE (fBin gCatT (fP 5) (fE (fTup (fCons (fC .non) fNil)))))) fNil))))) (fE post1F)))
noncomputable def b8 : Fs := (fRet (fBin gAdd (fP 2) (fE (fLst (fCons (fFz (fE (fCall m_law_pick (fLend 0 (fCons (fFz (fP 1)) fNil)) [some 0, none]))) fNil)))))
noncomputable def b9R : Fs := (fRet (fBin gAdd (fE (fBin gAdd (fE preF) (fE (fLst (fCons (fFz (fP 7)) fNil))))) (fE post1F)))
noncomputable def b9 : Fs := (fSeq OdA (fSeq OdB (fSeq OdP b9R)))
noncomputable def b10 : Fs := (fRet (fUn gRevL (fP 2)))
noncomputable def ifk (i : Int) (b rest : Fs) : Fs := fSeq (fIfS (fB (fBin gEq (fP 3) (fE (fC (.int i))))) b fNext) rest
noncomputable def chainK : Fs := ifk 0 b0 (ifk 1 b1 (ifk 2 b2 (ifk 3 b3 (ifk 4 b4 (ifk 5 b5 (ifk 6 b6 (ifk 7 b7 (ifk 8 b8 (ifk 9 b9 b10)))))))))
theorem bentF : F_law_bent = (fSeq (fPar (fCons (fCall m_law_draw (fLend 0 (fCons (fC (.int 11)) fNil)) [some 0, none]) (fCons (fCall m_law_draw (fLend 0 (fCons (fUn gLen (fP 2)) fNil)) [some 0, none]) fNil)) (gs2 3 4)) (fSeq (fAsg (fBin gIx (fP 2) (fP 4)) (gN 5)) chainK)) := rfl
/-- a list of things comes out -/
def Told (f : Fs) (ρ : Rho) (n : Nat) : Prop := ∃ (xs : List D) (o' : OD) (r : Rho), f ρ = some (.rt (.ol (xs.map .st)) (some o' :: r)) ∧ 2 ≤ r.length ∧ PotOk o' ∧ (∀ x ∈ xs, Itm x) ∧ xs.length ≤ n
theorem Told.yes {c i : Int} (h : c = i) {ρ : Rho} {b rest : Fs} {n : Nat} (hρ : ρ[3]? = some (some (.st (.int c)))) (hb : Told b ρ n) : Told (ifk i b rest) ρ n := by
  obtain ⟨xs, o', r, e, h2⟩ := hb
  exact ⟨xs, o', r, bk_t h hρ e, h2⟩
theorem Told.no {c i : Int} (h : c ≠ i) {ρ : Rho} {b rest : Fs} {n : Nat} (hρ : ρ[3]? = some (some (.st (.int c)))) (hb : Told rest ρ n) : Told (ifk i b rest) ρ n := by
  obtain ⟨xs, o', r, e, h2⟩ := hb
  exact ⟨xs, o', r, by unfold ifk; rw [bk_f h hρ]; exact e, h2⟩
theorem low_app {w : Str} (h : LowS w ∧ w.length ≤ 12) : Wd (w ++ "a") := by
  have ea : cs (Str.ofString "a") = [97] := by decide +kernel
  refine ⟨fun c hc => ?_, ?_⟩
  · rw [cs_app, ea] at hc
    rcases List.mem_append.mp hc with z | z
    · exact h.1 c z
    · have : c = 97 := by simpa using z
      omega
  · have e1 : (w ++ Str.ofString "a").length = w.length + 1 := by
      show (w.cps ++ (Str.ofString "a").cps).size = _
      have : (Str.ofString "a").cps.size = 1 := by decide +kernel
      rw [Array.size_append, this]
      rfl
    have := h.2
    show (w ++ Str.ofString "a").length ≤ 13
    omega
theorem sT_39 {q : List Nat} {ws : List (List Nat)} (hq : QOk q) (hw : WOk ws) : ∀ t ∈ sT (bT q ws), t.2.2 < 39 := fun t ht => by
  have h := bT_ok (q := q) hw.ne hq.len hw.num
  have := sT_rg h ht
  have := h.n0
  omega
theorem bent_told {A P : List Stp} (hA : SLow A) (h39 : ∀ t ∈ A, t.2.2 < 39) (hn : A.length ≤ 1000) (hP : ∀ t ∈ P, t ∈ A) (hl : P.length ≤ 60) {o : OD} (hp : PotOk o) {c : Int} (hc : 0 ≤ c ∧ c < 11) {k : Nat} {K : Int} (hK : K = (k : Int)) {t : Stp} (ht : P[k]? = some t) : Told chainK (bS o A P c K t) (P.length + 2) := by
  have htP : t ∈ P := List.mem_of_getElem? ht
  have htA := hP t htP
  have hI : ∀ X : List Stp, (∀ s ∈ X, s ∈ P) → ∀ x ∈ sD X, Itm x := fun X hX x hx => by
    obtain ⟨s, hs, rfl⟩ := List.mem_map.mp hx
    exact hA.itm (hP s (hX s hs))
  have ht1 := hA.pl t htA
  have ht2 := hA.wd t htA
  have hkl := (List.getElem?_eq_some_iff.mp ht).1
  have e1 := pre_ok (o := o) (A := A) (P := P) (c := c) (t := t) (x6 := none) (x7 := none) hK
  have e2 := post1_ok (o := o) (A := A) (P := P) (c := c) (t := t) (x6 := none) (x7 := none) hK
  have e3 := post0_ok (o := o) (A := A) (P := P) (c := c) (t := t) (x6 := none) (x7 := none) hK
  have hpre := hI (P.take k) fun s hs => List.mem_of_mem_take hs
  have hpo1 := hI (P.drop (k + 1)) fun s hs => List.mem_of_mem_drop hs
  have hpo0 := hI (P.drop k) fun s hs => List.mem_of_mem_drop hs
  have l1 : (sD (P.take k)).length = k := by simp; omega
  have l2 : (sD (P.drop (k + 1))).length = P.length - (k + 1) := by simp
  have l3 : (sD (P.drop k)).length = P.length - k := by simp
  have hW : Wd t.2.1 := ⟨ht2.1, by omega⟩
  -- one thing in the place of t, or put in
  have one : ∀ (mid : Fe) (Y : List D), mid (bS o A P c K t) = some (.ol (Y.map .st), bS o A P c K t) → (∀ y ∈ Y, Itm y) → Y.length ≤ 2 → Told (fRet (fBin gAdd (fE (fBin gAdd (fE preF) (fE mid))) (fE post1F))) (bS o A P c K t) (P.length + 2) := fun mid Y h1 h2 h3 => by
    refine ⟨_, o, _, put_mid e1 h1 e2 (by omega), by simp, hp, fun x hx => ?_, by rw [List.length_append, List.length_append]; omega⟩
    rcases List.mem_append.mp hx with z | z
    · rcases List.mem_append.mp z with z | z
      · exact hpre x z
      · exact h2 x z
    · exact hpo1 x z
  have two : ∀ (mid : Fe) (Y : List D), mid (bS o A P c K t) = some (.ol (Y.map .st), bS o A P c K t) → (∀ y ∈ Y, Itm y) → Y.length ≤ 2 → Told (fRet (fBin gAdd (fE (fBin gAdd (fE preF) (fE mid))) (fE post0F))) (bS o A P c K t) (P.length + 2) := fun mid Y h1 h2 h3 => by
    refine ⟨_, o, _, put_mid e1 h1 e3 (by omega), by simp, hp, fun x hx => ?_, by rw [List.length_append, List.length_append]; omega⟩
    rcases List.mem_append.mp hx with z | z
    · rcases List.mem_append.mp z with z | z
      · exact hpre x z
      · exact h2 x z
    · exact hpo0 x z
  have hρ : (bS o A P c K t)[3]? = some (some (.st (.int c))) := rfl
  have r3 : gRev3 (.st (stp t)) = some (.st (stp (t.2.2, t.2.1, t.1))) := rfl
  have hrev : Itm (stp (t.2.2, t.2.1, t.1)) := .stp ht1.2 hW ht1.1
  have ht0 : Itm (stp t) := hA.itm htA
  unfold chainK
  by_cases c0 : c = 0
  · refine Told.yes c0 hρ ?_
    refine ⟨_, o, _, put_two e1 e2 (by omega), by simp, hp, fun x hx => ?_, by rw [List.length_append]; omega⟩
    rcases List.mem_append.mp hx with z | z
    · exact hpre x z
    · exact hpo1 x z
  refine Told.no c0 hρ ?_
  by_cases c1 : c = 1
  · refine Told.yes c1 hρ (two _ [stp t] (by simp only [runM, outsOf, fSeq, fRet, fAsg, gN, fFz, fPeek, fBack, fDrop, fBin, fUn, fC, fCons, fNil, fLend, fCall, fCallK, pick, List.filterMap_cons, List.filterMap_nil, putBack, fIfS, fB, fNot, fAnd, fOr, fAndV, fOrV, fNext, fIf, fX, fLst, fTup, fMov, fPar, gs2, gs3, gT, gsCons, gsNil, fYes, gAdd_i, gLt_i, gSub_i, gDiv_i, gMod_i, gGt_i, gLe_i, gGe_i, gInt_i, gNeg_i, gAbs_i, gMax_i, gMin_i, OD.val, valL, valL_st, fItS, fFor, fLc, wipeR, fPart, fNoPart, fSl, fAppend, fExtend, fPop, fGet2, fD1, fDNew, keyD, gSetQ, gSetI, gSetD, stK_map, fItR1, fLRg, List.getElem?_cons_succ, List.getElem?_cons_zero, List.set_cons_succ, List.set_cons_zero, List.length_cons, List.length_nil, List.map_cons, List.map_nil, Option.map_some, Option.map_none, Nat.zero_add, Nat.reduceAdd, Nat.reduceLT, Nat.reduceEqDiff, and_self, big0, big1, big2, big3, big4, big5, if_true, if_false, ite_true, ite_false, Bool.not_true, Bool.not_false, Bool.true_and, Bool.false_and]) (fun y hy => ?_) (by simp))
    have : y = stp t := by simpa using hy
    rw [this]; exact ht0
  refine Told.no c1 hρ ?_
  by_cases c2 : c = 2
  · refine Told.yes c2 hρ (one _ [stp (t.2.2, t.2.1, t.1)] (by simp only [runM, outsOf, fSeq, fRet, fAsg, gN, fFz, fPeek, fBack, fDrop, fBin, fUn, fC, fCons, fNil, fLend, fCall, fCallK, pick, List.filterMap_cons, List.filterMap_nil, putBack, fIfS, fB, fNot, fAnd, fOr, fAndV, fOrV, fNext, fIf, fX, fLst, fTup, fMov, fPar, gs2, gs3, gT, gsCons, gsNil, fYes, gAdd_i, gLt_i, gSub_i, gDiv_i, gMod_i, gGt_i, gLe_i, gGe_i, gInt_i, gNeg_i, gAbs_i, gMax_i, gMin_i, OD.val, valL, valL_st, fItS, fFor, fLc, wipeR, fPart, fNoPart, fSl, fAppend, fExtend, fPop, fGet2, fD1, fDNew, keyD, gSetQ, gSetI, gSetD, stK_map, fItR1, fLRg, List.getElem?_cons_succ, List.getElem?_cons_zero, List.set_cons_succ, List.set_cons_zero, List.length_cons, List.length_nil, List.map_cons, List.map_nil, Option.map_some, Option.map_none, Nat.zero_add, Nat.reduceAdd, Nat.reduceLT, Nat.reduceEqDiff, and_self, big0, big1, big2, big3, big4, big5, if_true, if_false, ite_true, ite_false, Bool.not_true, Bool.not_false, Bool.true_and, Bool.false_and,r3]) (fun y hy => ?_) (by simp))
    have : y = stp (t.2.2, t.2.1, t.1) := by simpa using hy
    rw [this]; exact hrev
  refine Told.no c2 hρ ?_
  by_cases c3 : c = 3
  · refine Told.yes c3 hρ (two _ [stp t, stp (t.2.2, t.2.1, t.1)] (by simp only [runM, outsOf, fSeq, fRet, fAsg, gN, fFz, fPeek, fBack, fDrop, fBin, fUn, fC, fCons, fNil, fLend, fCall, fCallK, pick, List.filterMap_cons, List.filterMap_nil, putBack, fIfS, fB, fNot, fAnd, fOr, fAndV, fOrV, fNext, fIf, fX, fLst, fTup, fMov, fPar, gs2, gs3, gT, gsCons, gsNil, fYes, gAdd_i, gLt_i, gSub_i, gDiv_i, gMod_i, gGt_i, gLe_i, gGe_i, gInt_i, gNeg_i, gAbs_i, gMax_i, gMin_i, OD.val, valL, valL_st, fItS, fFor, fLc, wipeR, fPart, fNoPart, fSl, fAppend, fExtend, fPop, fGet2, fD1, fDNew, keyD, gSetQ, gSetI, gSetD, stK_map, fItR1, fLRg, List.getElem?_cons_succ, List.getElem?_cons_zero, List.set_cons_succ, List.set_cons_zero, List.length_cons, List.length_nil, List.map_cons, List.map_nil, Option.map_some, Option.map_none, Nat.zero_add, Nat.reduceAdd, Nat.reduceLT, Nat.reduceEqDiff, and_self, big0, big1, big2, big3, big4, big5, if_true, if_false, ite_true, ite_false, Bool.not_true, Bool.not_false, Bool.true_and, Bool.false_and,r3]) (fun y hy => ?_) (by simp))
    simp only [List.mem_cons, List.not_mem_nil, or_false] at hy
    rcases hy with rfl | rfl
    · exact ht0
    · exact hrev
  refine Told.no c3 hρ ?_
  by_cases c4 : c = 4
  · have gl : gList (.st (stp t)) = some (.ol [.st (.int t.1), .st (.str t.2.1), .st (.int t.2.2)]) := rfl
    refine Told.yes c4 hρ (one _ [.lst [.int t.1, .str t.2.1, .int t.2.2]] (by simp only [runM, outsOf, fSeq, fRet, fAsg, gN, fFz, fPeek, fBack, fDrop, fBin, fUn, fC, fCons, fNil, fLend, fCall, fCallK, pick, List.filterMap_cons, List.filterMap_nil, putBack, fIfS, fB, fNot, fAnd, fOr, fAndV, fOrV, fNext, fIf, fX, fLst, fTup, fMov, fPar, gs2, gs3, gT, gsCons, gsNil, fYes, gAdd_i, gLt_i, gSub_i, gDiv_i, gMod_i, gGt_i, gLe_i, gGe_i, gInt_i, gNeg_i, gAbs_i, gMax_i, gMin_i, OD.val, valL, valL_st, fItS, fFor, fLc, wipeR, fPart, fNoPart, fSl, fAppend, fExtend, fPop, fGet2, fD1, fDNew, keyD, gSetQ, gSetI, gSetD, stK_map, fItR1, fLRg, List.getElem?_cons_succ, List.getElem?_cons_zero, List.set_cons_succ, List.set_cons_zero, List.length_cons, List.length_nil, List.map_cons, List.map_nil, Option.map_some, Option.map_none, Nat.zero_add, Nat.reduceAdd, Nat.reduceLT, Nat.reduceEqDiff, and_self, big0, big1, big2, big3, big4, big5, if_true, if_false, ite_true, ite_false, Bool.not_true, Bool.not_false, Bool.true_and, Bool.false_and,gl]) (fun y hy => ?_) (by simp))
    have : y = .lst [.int t.1, .str t.2.1, .int t.2.2] := by simpa using hy
    rw [this]; exact .lst3 ht1.1 hW ht1.2
  refine Told.no c4 hρ ?_
  by_cases c5 : c = 5
  · have ga : gAdd (.st (.str t.2.1)) (.st (.str "a")) = some (.st (.str (t.2.1 ++ "a"))) := gAdd_s (by
      have : (Str.ofString "a").length = 1 := by decide +kernel
      rw [this]
      unfold big
      omega)
    refine Told.yes c5 hρ (one _ [stp (t.1, t.2.1 ++ "a", t.2.2)] (by simp only [runM, outsOf, fSeq, fRet, fAsg, gN, fFz, fPeek, fBack, fDrop, fBin, fUn, fC, fCons, fNil, fLend, fCall, fCallK, pick, List.filterMap_cons, List.filterMap_nil, putBack, fIfS, fB, fNot, fAnd, fOr, fAndV, fOrV, fNext, fIf, fX, fLst, fTup, fMov, fPar, gs2, gs3, gT, gsCons, gsNil, fYes, gAdd_i, gLt_i, gSub_i, gDiv_i, gMod_i, gGt_i, gLe_i, gGe_i, gInt_i, gNeg_i, gAbs_i, gMax_i, gMin_i, OD.val, valL, valL_st, fItS, fFor, fLc, wipeR, fPart, fNoPart, fSl, fAppend, fExtend, fPop, fGet2, fD1, fDNew, keyD, gSetQ, gSetI, gSetD, stK_map, fItR1, fLRg, List.getElem?_cons_succ, List.getElem?_cons_zero, List.set_cons_succ, List.set_cons_zero, List.length_cons, List.length_nil, List.map_cons, List.map_nil, Option.map_some, Option.map_none, Nat.zero_add, Nat.reduceAdd, Nat.reduceLT, Nat.reduceEqDiff, and_self, big0, big1, big2, big3, big4, big5, if_true, if_false, ite_true, ite_false, Bool.not_true, Bool.not_false, Bool.true_and, Bool.false_and,ix_s0, ix_s1, ix_s2, ga]) (fun y hy => ?_) (by simp))
    have : y = stp (t.1, t.2.1 ++ "a", t.2.2) := by simpa using hy
    rw [this]; exact .stp ht1.1 (low_app ht2) ht1.2
  refine Told.no c5 hρ ?_
  by_cases c6 : c = 6
  · have hpl : Pl (t.2.2 + 1) := ⟨by have := ht1.2.1; omega, by have := h39 t htA; omega⟩
    refine Told.yes c6 hρ (one _ [stp (t.1, t.2.1, t.2.2 + 1)] (by simp only [runM, outsOf, fSeq, fRet, fAsg, gN, fFz, fPeek, fBack, fDrop, fBin, fUn, fC, fCons, fNil, fLend, fCall, fCallK, pick, List.filterMap_cons, List.filterMap_nil, putBack, fIfS, fB, fNot, fAnd, fOr, fAndV, fOrV, fNext, fIf, fX, fLst, fTup, fMov, fPar, gs2, gs3, gT, gsCons, gsNil, fYes, gAdd_i, gLt_i, gSub_i, gDiv_i, gMod_i, gGt_i, gLe_i, gGe_i, gInt_i, gNeg_i, gAbs_i, gMax_i, gMin_i, OD.val, valL, valL_st, fItS, fFor, fLc, wipeR, fPart, fNoPart, fSl, fAppend, fExtend, fPop, fGet2, fD1, fDNew, keyD, gSetQ, gSetI, gSetD, stK_map, fItR1, fLRg, List.getElem?_cons_succ, List.getElem?_cons_zero, List.set_cons_succ, List.set_cons_zero, List.length_cons, List.length_nil, List.map_cons, List.map_nil, Option.map_some, Option.map_none, Nat.zero_add, Nat.reduceAdd, Nat.reduceLT, Nat.reduceEqDiff, and_self, big0, big1, big2, big3, big4, big5, if_true, if_false, ite_true, ite_false, Bool.not_true, Bool.not_false, Bool.true_and, Bool.false_and,ix_s0, ix_s1, ix_s2]) (fun y hy => ?_) (by simp))
    have : y = stp (t.1, t.2.1, t.2.2 + 1) := by simpa using hy
    rw [this]; exact .stp ht1.1 hW hpl
  refine Told.no c6 hρ ?_
  by_cases c7 : c = 7
  · have gc : gCatT (.st (stp t)) (.st (.tup [.non])) = some (.st (.tup [.int t.1, .str t.2.1, .int t.2.2, .non])) := by
      unfold gCatT
      simp [big]
    refine Told.yes c7 hρ (one _ [.tup [.int t.1, .str t.2.1, .int t.2.2, .non]] (by simp only [runM, outsOf, fSeq, fRet, fAsg, gN, fFz, fPeek, fBack, fDrop, fBin, fUn, fC, fCons, fNil, fLend, fCall, fCallK, pick, List.filterMap_cons, List.filterMap_nil, putBack, fIfS, fB, fNot, fAnd, fOr, fAndV, fOrV, fNext, fIf, fX, fLst, fTup, fMov, fPar, gs2, gs3, gT, gsCons, gsNil, fYes, gAdd_i, gLt_i, gSub_i, gDiv_i, gMod_i, gGt_i, gLe_i, gGe_i, gInt_i, gNeg_i, gAbs_i, gMax_i, gMin_i, OD.val, valL, valL_st, fItS, fFor, fLc, wipeR, fPart, fNoPart, fSl, fAppend, fExtend, fPop, fGet2, fD1, fDNew, keyD, gSetQ, gSetI, gSetD, stK_map, fItR1, fLRg, List.getElem?_cons_succ, List.getElem?_cons_zero, List.set_cons_succ, List.set_cons_zero, List.length_cons, List.length_nil, List.map_cons, List.map_nil, Option.map_some, Option.map_none, Nat.zero_add, Nat.reduceAdd, Nat.reduceLT, Nat.reduceEqDiff, and_self, big0, big1, big2, big3, big4, big5, if_true, if_false, ite_true, ite_false, Bool.not_true, Bool.not_false, Bool.true_and, Bool.false_and,gc]) (fun y hy => ?_) (by simp))
    have : y = .tup [.int t.1, .str t.2.1, .int t.2.2, .non] := by simpa using hy
    rw [this]; exact .four ht1.1 hW ht1.2
  refine Told.no c7 hρ ?_
  by_cases c8 : c = 8
  · obtain ⟨d, o', hd, e4, hp'⟩ := pick_ok (ds := sD A) hp (by
      intro z
      have : A = [] := by simpa using z
      rw [this] at htA; cases htA) (by simp; omega)
    obtain ⟨u, hu, rfl⟩ := List.mem_map.mp hd
    have ga : gAdd (.st (.lst (sD P))) (.ol [.st (stp u)]) = some (.ol ((sD P ++ [stp u]).map .st)) := gAdd_l (xs := sD P) (ys := [stp u]) rfl rfl (by simp [big]; omega)
    refine Told.yes c8 hρ ⟨sD P ++ [stp u], o', [some (.st (.lst (sD A))), some (.st (.lst (sD P))), some (.st (.int c)), some (.st (.int K)), some (.st (stp t)), none, none], ?_, by simp, hp', fun x hx => ?_, by simp⟩
    · obtain ⟨pp, qq, rfl, _⟩ := hp
      simp only [runM, outsOf, fSeq, fRet, fAsg, gN, fFz, fPeek, fBack, fDrop, fBin, fUn, fC, fCons, fNil, fLend, fCall, fCallK, pick, List.filterMap_cons, List.filterMap_nil, putBack, fIfS, fB, fNot, fAnd, fOr, fAndV, fOrV, fNext, fIf, fX, fLst, fTup, fMov, fPar, gs2, gs3, gT, gsCons, gsNil, fYes, gAdd_i, gLt_i, gSub_i, gDiv_i, gMod_i, gGt_i, gLe_i, gGe_i, gInt_i, gNeg_i, gAbs_i, gMax_i, gMin_i, OD.val, valL, valL_st, fItS, fFor, fLc, wipeR, fPart, fNoPart, fSl, fAppend, fExtend, fPop, fGet2, fD1, fDNew, keyD, gSetQ, gSetI, gSetD, stK_map, fItR1, fLRg, List.getElem?_cons_succ, List.getElem?_cons_zero, List.set_cons_succ, List.set_cons_zero, List.length_cons, List.length_nil, List.map_cons, List.map_nil, Option.map_some, Option.map_none, Nat.zero_add, Nat.reduceAdd, Nat.reduceLT, Nat.reduceEqDiff, and_self, big0, big1, big2, big3, big4, big5, if_true, if_false, ite_true, ite_false, Bool.not_true, Bool.not_false, Bool.true_and, Bool.false_and,b8, e4, ga]
    · rcases List.mem_append.mp hx with z | z
      · exact hI P (fun s hs => hs) x z
      · have : x = stp u := by simpa using z
        rw [this]; exact hA.itm hu
  refine Told.no c8 hρ ?_
  by_cases c9 : c = 9
  · obtain ⟨d, o', hd, hp', e4⟩ := odd_ok (A := A) (P := P) (c := c) (K := K) hp ht0 ht1.2
    have f1 := pre_ok (o := o') (A := A) (P := P) (c := c) (t := t) (x6 := some (.ol ((od7 t ++ od3 t).map .st))) (x7 := some (.st d)) hK
    have f2 := post1_ok (o := o') (A := A) (P := P) (c := c) (t := t) (x6 := some (.ol ((od7 t ++ od3 t).map .st))) (x7 := some (.st d)) hK
    have e5 := put_mid (mid := (fLst (fCons (fFz (fP 7)) fNil))) (Y := [d]) f1 (by simp only [runM, outsOf, fSeq, fRet, fAsg, gN, fFz, fPeek, fBack, fDrop, fBin, fUn, fC, fCons, fNil, fLend, fCall, fCallK, pick, List.filterMap_cons, List.filterMap_nil, putBack, fIfS, fB, fNot, fAnd, fOr, fAndV, fOrV, fNext, fIf, fX, fLst, fTup, fMov, fPar, gs2, gs3, gT, gsCons, gsNil, fYes, gAdd_i, gLt_i, gSub_i, gDiv_i, gMod_i, gGt_i, gLe_i, gGe_i, gInt_i, gNeg_i, gAbs_i, gMax_i, gMin_i, OD.val, valL, valL_st, fItS, fFor, fLc, wipeR, fPart, fNoPart, fSl, fAppend, fExtend, fPop, fGet2, fD1, fDNew, keyD, gSetQ, gSetI, gSetD, stK_map, fItR1, fLRg, List.getElem?_cons_succ, List.getElem?_cons_zero, List.set_cons_succ, List.set_cons_zero, List.length_cons, List.length_nil, List.map_cons, List.map_nil, Option.map_some, Option.map_none, Nat.zero_add, Nat.reduceAdd, Nat.reduceLT, Nat.reduceEqDiff, and_self, big0, big1, big2, big3, big4, big5, if_true, if_false, ite_true, ite_false, Bool.not_true, Bool.not_false, Bool.true_and, Bool.false_and]) f2 (by rw [l1, l2, List.length_singleton]; omega)
    refine Told.yes c9 hρ ⟨sD (P.take k) ++ [d] ++ sD (P.drop (k + 1)), o', [some (.st (.lst (sD A))), some (.st (.lst (sD P))), some (.st (.int c)), some (.st (.int K)), some (.st (stp t)), some (.ol ((od7 t ++ od3 t).map .st)), some (.st d)], ?_, by simp, hp', fun x hx => ?_, ?_⟩
    · have : b9 (bS o A P c K t) = b9R [some o', some (.st (.lst (sD A))), some (.st (.lst (sD P))), some (.st (.int c)), some (.st (.int K)), some (.st (stp t)), some (.ol ((od7 t ++ od3 t).map .st)), some (.st d)] := by
        unfold b9
        have h3 : ∀ ρ, fSeq OdA (fSeq OdB (fSeq OdP b9R)) ρ = fSeq (fSeq OdA (fSeq OdB OdP)) b9R ρ := fun ρ => by
          simp only [fSeq]
          cases OdA ρ with
          | none => rfl
          | some x =>
            cases x with
            | nx ρ1 =>
              simp only
              cases OdB ρ1 with
              | none => rfl
              | some y =>
                cases y with
                | nx ρ2 => rfl
                | _ => rfl
            | _ => rfl
        rw [h3]
        unfold fSeq at e4 ⊢
        rw [e4]
      rw [this]
      exact e5
    · rcases List.mem_append.mp hx with z | z
      · rcases List.mem_append.mp z with z | z
        · exact hpre x z
        · have : x = d := by simpa using z
          rw [this]; exact hd
      · exact hpo1 x z
    · rw [List.length_append, List.length_append]
      simp only [List.length_cons, List.length_nil]
      omega
  refine Told.no c9 hρ ?_
  have gr : gRevL (.st (.lst (sD P))) = some (.ol ((sD P).reverse.map .st)) := rfl
  refine ⟨(sD P).reverse, o, [some (.st (.lst (sD A))), some (.st (.lst (sD P))), some (.st (.int c)), some (.st (.int K)), some (.st (stp t)), none, none], ?_, by simp, hp, fun x hx => hI P (fun s hs => hs) x (List.mem_reverse.mp hx), by simp⟩
  obtain ⟨pp, qq, rfl, _⟩ := hp
  simp only [runM, outsOf, fSeq, fRet, fAsg, gN, fFz, fPeek, fBack, fDrop, fBin, fUn, fC, fCons, fNil, fLend, fCall, fCallK, pick, List.filterMap_cons, List.filterMap_nil, putBack, fIfS, fB, fNot, fAnd, fOr, fAndV, fOrV, fNext, fIf, fX, fLst, fTup, fMov, fPar, gs2, gs3, gT, gsCons, gsNil, fYes, gAdd_i, gLt_i, gSub_i, gDiv_i, gMod_i, gGt_i, gLe_i, gGe_i, gInt_i, gNeg_i, gAbs_i, gMax_i, gMin_i, OD.val, valL, valL_st, fItS, fFor, fLc, wipeR, fPart, fNoPart, fSl, fAppend, fExtend, fPop, fGet2, fD1, fDNew, keyD, gSetQ, gSetI, gSetD, stK_map, fItR1, fLRg, List.getElem?_cons_succ, List.getElem?_cons_zero, List.set_cons_succ, List.set_cons_zero, List.length_cons, List.length_nil, List.map_cons, List.map_nil, Option.map_some, Option.map_none, Nat.zero_add, Nat.reduceAdd, Nat.reduceLT, Nat.reduceEqDiff, and_self, big0, big1, big2, big3, big4, big5, if_true, if_false, ite_true, ite_false, Bool.not_true, Bool.not_false, Bool.true_and, Bool.false_and,b10, gr]
end Lw
set_option Elab.async false
set_option linter.all false
set_option maxRecDepth 100000
set_option maxHeartbeats 400000
namespace Lw
open PySem L2 Qy
theorem bent_gen {o o1 o2 o3 : OD} {S F t : D} {c K N : Int} {ck : Fs} {z : OD} {r : Rho} (hF : F_law_bent = (fSeq (fPar (fCons (fCall m_law_draw (fLend 0 (fCons (fC (.int 11)) fNil)) [some 0, none]) (fCons (fCall m_law_draw (fLend 0 (fCons (fUn gLen (fP 2)) fNil)) [some 0, none]) fNil)) (gs2 3 4)) (fSeq (fAsg (fBin gIx (fP 2) (fP 4)) (gN 5)) ck)))
    (e1 : m_law_draw [o, .st (.int 11)] = some (.st (.int c), [some o1, none])) (el : gLen (.st F) = some (.st (.int N))) (e2 : m_law_draw [o1, .st (.int N)] = some (.st (.int K), [some o2, none])) (e3 : gIx (.st F) (.st (.int K)) = some (.st t))
    (e4 : ck [some o2, some (.st S), some (.st F), some (.st (.int c)), some (.st (.int K)), some (.st t), none, none] = some (.rt z (some o3 :: r))) (hr : 2 ≤ r.length) :
    m_law_bent [o, .st S, .st F] = some (z, [some o3, none, none]) := by
  have e0 : rho0 N_law_bent [o, .st S, .st F] = [some o, some (.st S), some (.st F), none, none, none, none, none] := rfl
  obtain ⟨a, b, r', rfl⟩ : ∃ a b r', r = a :: b :: r' := by
    match r, hr with
    | a :: b :: r', _ => exact ⟨a, b, r', rfl⟩
  have eo : outsOf [true, false, false] (some o3 :: a :: b :: r') = [some o3, none, none] := rfl
  rw [m_law_bent, runM, e0, hF]
  simp only [runM, outsOf, fSeq, fRet, fAsg, gN, fFz, fPeek, fBack, fDrop, fBin, fUn, fC, fCons, fNil, fLend, fCall, fCallK, pick, List.filterMap_cons, List.filterMap_nil, putBack, fIfS, fB, fNot, fAnd, fOr, fAndV, fOrV, fNext, fIf, fX, fLst, fTup, fMov, fPar, gs2, gs3, gT, gsCons, gsNil, fYes, gAdd_i, gLt_i, gSub_i, gDiv_i, gMod_i, gGt_i, gLe_i, gGe_i, gInt_i, gNeg_i, gAbs_i, gMax_i, gMin_i, OD.val, valL, valL_st, fItS, fFor, fLc, wipeR, fPart, fNoPart, fSl, fAppend, fExtend, fPop, fGet2, fD1, fDNew, keyD, gSetQ, gSetI, gSetD, stK_map, fItR1, fLRg, List.getElem?_cons_succ, List.getElem?_cons_zero, List.set_cons_succ, List.set_cons_zero, List.length_cons, List.length_nil, List.map_cons, List.map_nil, Option.map_some, Option.map_none, Nat.zero_add, Nat.reduceAdd, Nat.reduceLT, Nat.reduceEqDiff, and_self, big0, big1, big2, big3, big4, big5, if_true, if_false, ite_true, ite_false, Bool.not_true, Bool.not_false, Bool.true_and, Bool.false_and,e1, el, e2, e3, e4, eo]
theorem bent_ok {A P : List Stp} (hA : SLow A) (h39 : ∀ t ∈ A, t.2.2 < 39) (hn : A.length ≤ 1000) (hP : ∀ t ∈ P, t ∈ A) (hl : P.length ≤ 60) (h0 : P ≠ []) {o : OD} (hp : PotOk o) :
    ∃ (xs : List D) (o' : OD), m_law_bent [o, .st (.lst (sD A)), .st (.lst (sD P))] = some (.ol (xs.map .st), [some o', none, none]) ∧ PotOk o' ∧ (∀ x ∈ xs, Itm x) ∧ xs.length ≤ P.length + 2 := by
  have hpos : 0 < P.length := List.length_pos_iff.mpr h0
  obtain ⟨c, o1, e1, c1, c2, hp1⟩ := draw_ok (n := 11) hp (by decide) (by decide)
  obtain ⟨K, o2, e2, k1, k2, hp2⟩ := draw_ok (n := ((P.length : Nat) : Int)) hp1 (by omega) (by omega)
  obtain ⟨k, rfl⟩ := Int.eq_ofNat_of_zero_le k1
  have hk : k < P.length := by omega
  obtain ⟨t, ht⟩ : ∃ t, P[k]? = some t := ⟨_, List.getElem?_eq_getElem hk⟩
  have el : gLen (.st (.lst (sD P))) = some (.st (.int (P.length : Int))) := by
    unfold gLen
    simp [OD.rd]
  have ei : gIx (.st (.lst (sD P))) (.st (.int (k : Int))) = some (.st (stp t)) := by
    have e9 : (sD P)[k]? = some (stp t) := by simp [ht]
    show (atI (sD P) (k : Int)).map OD.st = _
    rw [atI_nat e9]
    rfl
  obtain ⟨xs, o', r, e4, h1, h2, h3, h4⟩ := bent_told hA h39 hn hP hl hp2 (c := c) ⟨c1, c2⟩ (K := (k : Int)) rfl ht
  exact ⟨xs, o', bent_gen bentF e1 el e2 ei e4 h1, h2, h3, h4⟩
end Lw
set_option Elab.async false
set_option linter.all false
set_option maxRecDepth 100000
set_option maxHeartbeats 400000
namespace Lw
open PySem L2 Qy
theorem str_app (a b : Str) : (a ++ b).cps.toList = a.cps.toList ++ b.cps.toList := by
  show (a.cps ++ b.cps).toList = _
  simp
/-- signs that a word may have -/
def Sg (z : Str) : Prop := z.cps.toList ≠ [] ∧ z.cps.size < 1000 ∧ ∀ c ∈ z.cps.toList, 97 ≤ c ∧ c ≤ 122
theorem scene_ok {o : OD} (hp : PotOk o) : ∃ ws l o', m_law_scene [o] = some (.st (.tup [.lst (wD ws), .str (tx l)]), [some o']) ∧ PotOk o' ∧ WOk ws ∧ ws.Nodup ∧ QOk l := by
  obtain ⟨d1, o1, hd1, e1, hp1⟩ := pick_ok (ds := [.str "a", .str "ab", .str "ab", .str "abc", .str "abcd"]) hp (by simp) (by simp)
  obtain ⟨z, rfl, hz⟩ : ∃ z : Str, d1 = .str z ∧ Sg z := by
    simp only [List.mem_cons, List.not_mem_nil, or_false] at hd1
    rcases hd1 with rfl | rfl | rfl | rfl | rfl <;> exact ⟨_, rfl, by unfold Sg; decide +kernel⟩
  obtain ⟨d2, o2, hd2, e2, hp2⟩ := pick_ok (ds := [.int 0, .int 2, .int 4, .int 7, .int 14]) hp1 (by simp) (by simp)
  obtain ⟨n, rfl, hn⟩ : ∃ n : Int, d2 = .int n ∧ (0 ≤ n ∧ n ≤ 14) := by
    simp only [List.mem_cons, List.not_mem_nil, or_false] at hd2
    rcases hd2 with rfl | rfl | rfl | rfl | rfl <;> exact ⟨_, rfl, by omega⟩
  obtain ⟨d3, o3, hd3, e3, hp3⟩ := pick_ok (ds := [.int 2, .int 3, .int 4, .int 12]) hp2 (by simp) (by simp)
  obtain ⟨k, rfl, hk⟩ : ∃ k : Int, d3 = .int k ∧ (0 < k ∧ k ≤ 12) := by
    simp only [List.mem_cons, List.not_mem_nil, or_false] at hd3
    rcases hd3 with rfl | rfl | rfl | rfl <;> exact ⟨_, rfl, by omega⟩
  have hzz := hz.2.1
  obtain ⟨ws, o4, e4, hp4, hW, hwl⟩ := terms_ok (z := z) (n := n) (k := k) hp3 hz.1 (by omega) (by omega) (by omega) (by omega) (by omega)
  have e5 : gSl (wO ws) none (some 10) = some (.ol ((wD (ws.take 10)).map .st)) := by
    unfold gSl
    rw [rd_ol]
    simp only
    rw [show (10 : Int) = ((10 : Nat) : Int) from rfl, cutD_take, ← List.map_take]
  have hw : WOk (ws.take 10) := ⟨fun w h c hc => hz.2.2 c (hW.sg w (List.mem_of_mem_take h) c hc), fun w h => hW.ne w (List.mem_of_mem_take h), fun w h => by have := hW.le w (List.mem_of_mem_take h); omega, by simp; omega⟩
  have nd : (ws.take 10).Nodup := hW.nd.sublist (List.take_sublist _ _)
  generalize ws.take 10 = ws' at *
  obtain ⟨d5, o5, hd5, e6, hp5⟩ := pick_ok (ds := [.str "", .str "", .str "", .str "y"]) hp4 (by simp) (by simp)
  obtain ⟨d6, o6, hd6, e7, hp6⟩ := pick_ok (ds := [.int 2, .int 5, .int 9, .int 24]) hp5 (by simp) (by simp)
  obtain ⟨y, rfl, hy⟩ : ∃ y : Str, d5 = .str y ∧ (y = "" ∨ y = "y") := by
    simp only [List.mem_cons, List.not_mem_nil, or_false] at hd5
    rcases hd5 with rfl | rfl | rfl | rfl
    · exact ⟨_, rfl, .inl rfl⟩
    · exact ⟨_, rfl, .inl rfl⟩
    · exact ⟨_, rfl, .inl rfl⟩
    · exact ⟨_, rfl, .inr rfl⟩
  obtain ⟨m, rfl, hm⟩ : ∃ k : Int, d6 = .int k ∧ (k = 2 ∨ k = 5 ∨ k = 9 ∨ k = 24) := by
    simp only [List.mem_cons, List.not_mem_nil, or_false] at hd6
    rcases hd6 with rfl | rfl | rfl | rfl
    · exact ⟨_, rfl, .inl rfl⟩
    · exact ⟨_, rfl, .inr (.inl rfl)⟩
    · exact ⟨_, rfl, .inr (.inr (.inl rfl))⟩
    · exact ⟨_, rfl, .inr (.inr (.inr rfl))⟩
  have hyl : y.cps.size ≤ 1 ∧ ∀ c ∈ y.cps.toList, 97 ≤ c ∧ c ≤ 122 := by
    rcases hy with rfl | rfl
    · decide +kernel
    · decide +kernel
  have hzz2 : ∀ c ∈ (z ++ y).cps.toList, 97 ≤ c ∧ c ≤ 122 := fun c hc => by
    rw [str_app] at hc
    rcases List.mem_append.mp hc with h | h
    · exact hz.2.2 c h
    · exact hyl.2 c h
  have hzs : (z ++ y).cps.size = z.cps.size + y.cps.size := by
    show (z.cps ++ y.cps).size = _
    simp
  have hnum := hw.num
  obtain ⟨l, o7, e8, hp7, l0, l1, l2⟩ := asked_ok (ws := ws') (z := z ++ y) (k := m) (A := fun c => 97 ≤ c ∧ c ≤ 122) hp6 (by
      rw [str_app]
      intro h
      exact hz.1 (List.append_eq_nil_iff.mp h).1) (by omega) hzz2 (fun w hm => ⟨hw.ne w hm, hw.len w hm, hw.low w hm⟩) (by omega) (fun c hc => by omega) (by omega) (by omega)
  refine ⟨ws', l, o7, ?_, hp7, hw, nd, l2, l0, by omega⟩
  have ea : gAdd (.st (.str z)) (.st (.str y)) = some (.st (.str (z ++ y))) := gAdd_s (by
    show z.cps.size + y.cps.size ≤ big
    unfold big
    omega)
  have e0 : rho0 N_law_scene [o] = [some o, none, none, none] := rfl
  simp only [runM, outsOf, fSeq, fRet, fAsg, gN, fFz, fPeek, fBack, fDrop, fBin, fUn, fC, fCons, fNil, fLend, fCall, fCallK, pick, List.filterMap_cons, List.filterMap_nil, putBack, fIfS, fB, fNot, fAnd, fOr, fAndV, fOrV, fNext, fIf, fX, fLst, fTup, fMov, fPar, gs2, gs3, gT, gsCons, gsNil, fYes, gAdd_i, gLt_i, gSub_i, gDiv_i, gMod_i, gGt_i, gLe_i, gGe_i, gInt_i, gNeg_i, gAbs_i, gMax_i, gMin_i, OD.val, valL, valL_st, fItS, fFor, fLc, wipeR, fPart, fNoPart, fSl, fAppend, fExtend, fPop, fGet2, fD1, fDNew, keyD, gSetQ, gSetI, gSetD, stK_map, fItR1, fLRg, List.getElem?_cons_succ, List.getElem?_cons_zero, List.set_cons_succ, List.set_cons_zero, List.length_cons, List.length_nil, List.map_cons, List.map_nil, Option.map_some, Option.map_none, Nat.zero_add, Nat.reduceAdd, Nat.reduceLT, Nat.reduceEqDiff, and_self, big0, big1, big2, big3, big4, big5, if_true, if_false, ite_true, ite_false, Bool.not_true, Bool.not_false, Bool.true_and, Bool.false_and,m_law_scene, F_law_scene, e0, e1, e2, e3, e4, e5, e6, ea, e7, e8]
end Lw
set_option Elab.async false
set_option linter.all false
set_option maxRecDepth 100000
set_option maxHeartbeats 400000
namespace Lw
open PySem L2 Qy
noncomputable def R1 : Fs := (fAsg (fCall m_law_scene (fLend 0 fNil) [some 0]) (gT 2 (gsCons (gN 2) (gsCons (gN 3) gsNil))))
noncomputable def R2 : Fs := (fPar (fCons (fMake "Lot" m_Lot_init (fCons (fFz (fP 2)) fNil) [none]) (fCons (fCall m_law_steps (fCons (fFz (fP 2)) (fCons (fFz (fP 3)) fNil)) [none, none]) fNil)) (gsCons (gN 4) (gsCons (gN 5) gsNil)))
noncomputable def R3 : Fs := (fAsg (fCall m_law_gone (fLend 0 (fCons (fFz (fP 5)) (fCons (fUn gLen (fP 3)) fNil))) [some 0, none, none]) (gN 6))
def R4 : Fs := (fAsg (fLst (fCons (fFz (fP 6)) (fCons (fUn gTuple (fP 6)) (fCons (fC .non) (fCons (fC (.int 0)) (fCons (fC (.str "")) (fCons (fFz (fE fDNew)) (fCons (fFz (fE (fLst fNil))) (fCons (fTup fNil) (fCons (fC (.bl true)) (fCons (fFz (fE (fLst (fCons (fC .non) fNil)))) (fCons (fFz (fE (fLst (fCons (fTup fNil) fNil)))) (fCons (fFz (fE (fLst (fCons (fFz (fE (fLst fNil))) fNil)))) (fCons (fFz (fE (fSl (fP 6) fNoPart (fPart (fUn gNeg (fE (fC (.int 1)))))))) (fCons (fFz (fE (fBin gAdd (fE (fFz (fP 6))) (fP 6)))) fNil))))))))))))))) (gN 7))
noncomputable def R5B : Fs := (fIfS (fB (fBin gNe (fP 6) (fE (fLst fNil)))) (fX (fAppend 7 (fFz (fE (fCall m_law_bent (fLend 0 (fCons (fFz (fP 5)) (fCons (fFz (fP 6)) fNil))) [some 0, none, none]))))) fNext)
noncomputable def R5 : Fs := (fFor (fItR1 (fCons (fC (.int 8)) fNil)) (gN 8) R5B)
noncomputable def R6L : Fe := (fLc [9] (fItS (fFz (fP 7))) (gN 9) fYes (fFz (fE (fCall m_law_judged (fCons (fFz (fP 4)) (fCons (fFz (fP 3)) (fCons (fFz (fP 5)) (fCons (fFz (fP 9)) fNil)))) [none, none, none, none]))))
noncomputable def R6 : Fs := (fIfS (fNot (fB (fUn gAll (fE R6L)))) (fRet (fC (.bl false))) fNext)
noncomputable def RtB : Fs := (fSeq R1 (fSeq R2 (fSeq R3 (fSeq R4 (fSeq R5 R6)))))
theorem rightF : F_law_right = (fSeq (fFor (fItR1 (fCons (fC (.int 4)) fNil)) (gN 1) RtB) (fRet (fC (.bl true)))) := rfl
theorem r1_ok {x0 o' : OD} {s1 s2 s3 s4 s5 s6 s7 s8 : Option OD} {T q : D} (e1 : m_law_scene [x0] = some (.st (.tup [T, q]), [some o'])) :
    R1 [some x0, s1, s2, s3, s4, s5, s6, s7, s8, none] = some (.nx [some o', s1, some (.st T), some (.st q), s4, s5, s6, s7, s8, none]) := by
  simp only [runM, outsOf, fSeq, fRet, fAsg, gN, fFz, fPeek, fBack, fDrop, fBin, fUn, fC, fCons, fNil, fLend, fCall, fCallK, pick, List.filterMap_cons, List.filterMap_nil, putBack, fIfS, fB, fNot, fAnd, fOr, fAndV, fOrV, fNext, fIf, fX, fLst, fTup, fMov, fPar, gs2, gs3, gT, gsCons, gsNil, fYes, gAdd_i, gLt_i, gSub_i, gDiv_i, gMod_i, gGt_i, gLe_i, gGe_i, gInt_i, gNeg_i, gAbs_i, gMax_i, gMin_i, OD.val, valL, valL_st, fItS, fFor, fLc, wipeR, fPart, fNoPart, fSl, fAppend, fExtend, fPop, fGet2, fD1, fDNew, keyD, gSetQ, gSetI, gSetD, stK_map, fItR1, fLRg, List.getElem?_cons_succ, List.getElem?_cons_zero, List.set_cons_succ, List.set_cons_zero, List.length_cons, List.length_nil, List.map_cons, List.map_nil, Option.map_some, Option.map_none, Nat.zero_add, Nat.reduceAdd, Nat.reduceLT, Nat.reduceEqDiff, and_self, big0, big1, big2, big3, big4, big5, if_true, if_false, ite_true, ite_false, Bool.not_true, Bool.not_false, Bool.true_and, Bool.false_and,R1, e1]
theorem r2_ok {x0 SO : OD} {s1 s4 s5 s6 s7 s8 : Option OD} {T q L : D} (e2 : ∀ ρ ρ1 : Rho, (fCons (fFz (fP 2)) fNil) ρ = some ([.st T], ρ1) → fMake "Lot" m_Lot_init (fCons (fFz (fP 2)) fNil) [none] ρ = some (.st L, ρ1)) (e3 : m_law_steps [.st T, .st q] = some (SO, [none, none])) :
    R2 [some x0, s1, some (.st T), some (.st q), s4, s5, s6, s7, s8, none] = some (.nx [some x0, s1, some (.st T), some (.st q), some (.st L), some SO, s6, s7, s8, none]) := by
  have m1 := e2 [some x0, s1, some (.st T), some (.st q), s4, s5, s6, s7, s8, none] [some x0, s1, some (.st T), some (.st q), s4, s5, s6, s7, s8, none] (by simp only [runM, outsOf, fSeq, fRet, fAsg, gN, fFz, fPeek, fBack, fDrop, fBin, fUn, fC, fCons, fNil, fLend, fCall, fCallK, pick, List.filterMap_cons, List.filterMap_nil, putBack, fIfS, fB, fNot, fAnd, fOr, fAndV, fOrV, fNext, fIf, fX, fLst, fTup, fMov, fPar, gs2, gs3, gT, gsCons, gsNil, fYes, gAdd_i, gLt_i, gSub_i, gDiv_i, gMod_i, gGt_i, gLe_i, gGe_i, gInt_i, gNeg_i, gAbs_i, gMax_i, gMin_i, OD.val, valL, valL_st, fItS, fFor, fLc, wipeR, fPart, fNoPart, fSl, fAppend, fExtend, fPop, fGet2, fD1, fDNew, keyD, gSetQ, gSetI, gSetD, stK_map, fItR1, fLRg, List.getElem?_cons_succ, List.getElem?_cons_zero, List.set_cons_succ, List.set_cons_zero, List.length_cons, List.length_nil, List.map_cons, List.map_nil, Option.map_some, Option.map_none, Nat.zero_add, Nat.reduceAdd, Nat.reduceLT, Nat.reduceEqDiff, and_self, big0, big1, big2, big3, big4, big5, if_true, if_false, ite_true, ite_false, Bool.not_true, Bool.not_false, Bool.true_and, Bool.false_and])
  simp only [runM, outsOf, fSeq, fRet, fAsg, gN, fFz, fPeek, fBack, fDrop, fBin, fUn, fC, fCons, fNil, fLend, fCall, fCallK, pick, List.filterMap_cons, List.filterMap_nil, putBack, fIfS, fB, fNot, fAnd, fOr, fAndV, fOrV, fNext, fIf, fX, fLst, fTup, fMov, fPar, gs2, gs3, gT, gsCons, gsNil, fYes, gAdd_i, gLt_i, gSub_i, gDiv_i, gMod_i, gGt_i, gLe_i, gGe_i, gInt_i, gNeg_i, gAbs_i, gMax_i, gMin_i, OD.val, valL, valL_st, fItS, fFor, fLc, wipeR, fPart, fNoPart, fSl, fAppend, fExtend, fPop, fGet2, fD1, fDNew, keyD, gSetQ, gSetI, gSetD, stK_map, fItR1, fLRg, List.getElem?_cons_succ, List.getElem?_cons_zero, List.set_cons_succ, List.set_cons_zero, List.length_cons, List.length_nil, List.map_cons, List.map_nil, Option.map_some, Option.map_none, Nat.zero_add, Nat.reduceAdd, Nat.reduceLT, Nat.reduceEqDiff, and_self, big0, big1, big2, big3, big4, big5, if_true, if_false, ite_true, ite_false, Bool.not_true, Bool.not_false, Bool.true_and, Bool.false_and,R2, m1, e3]
theorem r3_ok {x0 o' FO : OD} {os : List OD} {s1 s2 s4 s6 s7 s8 : Option OD} {q S : D} {N : Int} (hS : OD.val (.ol os) = S) (el : gLen (.st q) = some (.st (.int N))) (e : m_law_gone [x0, .st S, .st (.int N)] = some (FO, [some o', none, none])) :
    R3 [some x0, s1, s2, some (.st q), s4, some (.ol os), s6, s7, s8, none] = some (.nx [some o', s1, s2, some (.st q), s4, some (.st S), some FO, s7, s8, none]) := by
  have hS' : D.lst (valL os) = S := hS
  simp only [runM, outsOf, fSeq, fRet, fAsg, gN, fFz, fPeek, fBack, fDrop, fBin, fUn, fC, fCons, fNil, fLend, fCall, fCallK, pick, List.filterMap_cons, List.filterMap_nil, putBack, fIfS, fB, fNot, fAnd, fOr, fAndV, fOrV, fNext, fIf, fX, fLst, fTup, fMov, fPar, gs2, gs3, gT, gsCons, gsNil, fYes, gAdd_i, gLt_i, gSub_i, gDiv_i, gMod_i, gGt_i, gLe_i, gGe_i, gInt_i, gNeg_i, gAbs_i, gMax_i, gMin_i, OD.val, valL, valL_st, fItS, fFor, fLc, wipeR, fPart, fNoPart, fSl, fAppend, fExtend, fPop, fGet2, fD1, fDNew, keyD, gSetQ, gSetI, gSetD, stK_map, fItR1, fLRg, List.getElem?_cons_succ, List.getElem?_cons_zero, List.set_cons_succ, List.set_cons_zero, List.length_cons, List.length_nil, List.map_cons, List.map_nil, Option.map_some, Option.map_none, Nat.zero_add, Nat.reduceAdd, Nat.reduceLT, Nat.reduceEqDiff, and_self, big0, big1, big2, big3, big4, big5, if_true, if_false, ite_true, ite_false, Bool.not_true, Bool.not_false, Bool.true_and, Bool.false_and,R3, hS', el, e]
abbrev th14 (X : List D) : List D := [.lst X, .tup X, .non, .int 0, .str "", .dK [], .lst [], .tup [], .bl true, .lst [.non], .lst [.tup []], .lst [.lst []], .lst X.dropLast, .lst (X ++ X)]
theorem r4_ok {s0 s1 s2 s3 s4 s5 s7 s8 : Option OD} {X : List D} (hX : X.length ≤ 400) :
    R4 [s0, s1, s2, s3, s4, s5, some (.ol (X.map .st)), s7, s8, none] = some (.nx [s0, s1, s2, s3, s4, s5, some (.st (.lst X)), some (.ol ((th14 X).map .st)), s8, none]) := by
  have v : valL (X.map .st) = X := by
    have := val_ol X
    injection this
  have t1 : gTuple (.st (.lst X)) = some (.st (.tup X)) := rfl
  have ng : gNeg (.st (.int 1)) = some (.st (.int (-1))) := rfl
  have sl : gSl (.st (.lst X)) none (some (-1)) = some (.ol (X.dropLast.map .st)) := by
    unfold gSl
    simp only [OD.rd]
    congr 3
    unfold cutD
    have e1 : HT.sIx X.length X.length (some (-1)) = X.length - 1 := by
      unfold HT.sIx
      simp
      omega
    have e2 : HT.sIx X.length 0 none = 0 := rfl
    rw [e1, e2, List.drop_zero, Nat.sub_zero, List.dropLast_eq_take]
  have ad : gAdd (.st (.lst X)) (.st (.lst X)) = some (.ol ((X ++ X).map .st)) := gAdd_l rfl rfl (by unfold big; omega)
  have v2 : valL (X.dropLast.map .st) = X.dropLast := by
    have := val_ol X.dropLast
    injection this
  have v3 : valL ((X ++ X).map .st) = X ++ X := by
    have := val_ol (X ++ X)
    injection this
  generalize hy : X.dropLast = Y at *
  generalize hz : X ++ X = Z at *
  have vk : valK [] = [] := rfl
  simp only [runM, outsOf, fSeq, fRet, fAsg, gN, fFz, fPeek, fBack, fDrop, fBin, fUn, fC, fCons, fNil, fLend, fCall, fCallK, pick, List.filterMap_cons, List.filterMap_nil, putBack, fIfS, fB, fNot, fAnd, fOr, fAndV, fOrV, fNext, fIf, fX, fLst, fTup, fMov, fPar, gs2, gs3, gT, gsCons, gsNil, fYes, gAdd_i, gLt_i, gSub_i, gDiv_i, gMod_i, gGt_i, gLe_i, gGe_i, gInt_i, gNeg_i, gAbs_i, gMax_i, gMin_i, OD.val, valL, valL_st, fItS, fFor, fLc, wipeR, fPart, fNoPart, fSl, fAppend, fExtend, fPop, fGet2, fD1, fDNew, keyD, gSetQ, gSetI, gSetD, stK_map, fItR1, fLRg, List.getElem?_cons_succ, List.getElem?_cons_zero, List.set_cons_succ, List.set_cons_zero, List.length_cons, List.length_nil, List.map_cons, List.map_nil, Option.map_some, Option.map_none, Nat.zero_add, Nat.reduceAdd, Nat.reduceLT, Nat.reduceEqDiff, and_self, big0, big1, big2, big3, big4, big5, if_true, if_false, ite_true, ite_false, Bool.not_true, Bool.not_false, Bool.true_and, Bool.false_and,R4, v, t1, vk, ng, sl, v2, ad, v3, big14, hy, hz]
theorem th14_ok {X : List D} (hX : ∀ x ∈ X, Itm x) (hl : X.length ≤ 31) : ∀ d ∈ th14 X, Thg d := fun d hd => by
  simp only [th14, List.mem_cons, List.not_mem_nil, or_false] at hd
  have nn : ∀ x ∈ ([] : List D), Itm x := fun x h => nomatch h
  rcases hd with rfl | rfl | rfl | rfl | rfl | rfl | rfl | rfl | rfl | rfl | rfl | rfl | rfl | rfl
  · exact .lst hX (by omega)
  · exact .tup hX (by omega)
  · exact .non
  · exact .int0
  · exact .str0
  · exact .dict
  · exact .lst nn (by simp)
  · exact .tup nn (by simp)
  · exact .tru
  · refine .lst (fun x h => ?_) (by simp)
    have : x = .non := by simpa using h
    rw [this]; exact .non
  · refine .lst (fun x h => ?_) (by simp)
    have : x = .tup [] := by simpa using h
    rw [this]; exact .nil
  · refine .lst (fun x h => ?_) (by simp)
    have : x = .lst [] := by simpa using h
    rw [this]; exact .lst0
  · exact .lst (fun x h => hX x (List.dropLast_subset X h)) (by simp; omega)
  · refine .lst (fun x h => ?_) (by simp; omega)
    rcases List.mem_append.mp h with z | z
    · exact hX x z
    · exact hX x z
theorem ne_l0 (X : List Stp) (h : ∀ t ∈ X, PyData.strOk t.2.1 = true) : gNe (.st (.lst (sD X))) (.ol []) = some (.st (.bl (!decide (X = [])))) := by
  have e1 : OD.py (.st (.lst (sD X))) = OD.py (.ol ((sD X).map .st)) := by
    rw [py_sO]
    show (pyL (sD X)).map PyData.list = _
    rw [py_sD]
    rfl
  have e2 := ne_s0 X h
  unfold gNe at e2 ⊢
  rw [e1]
  exact e2
theorem r5_gen {x0 o' : OD} {s1 s2 s3 s4 s8 : Option OD} {S F : D} {Ts xs : List D} (e1 : gNe (.st F) (.ol []) = some (.st (.bl true))) (e2 : m_law_bent [x0, .st S, .st F] = some (.ol (xs.map .st), [some o', none, none])) (hl : Ts.length ≤ 400) :
    R5B [some x0, s1, s2, s3, s4, some (.st S), some (.st F), some (.ol (Ts.map .st)), s8, none] = some (.nx [some o', s1, s2, s3, s4, some (.st S), some (.st F), some (.ol ((Ts ++ [D.lst xs]).map .st)), s8, none]) := by
  have v : valL (xs.map .st) = xs := by
    have := val_ol xs
    injection this
  have hb : (Ts.map OD.st).length ≤ big := by simp [big]; omega
  have ee : Ts.map OD.st ++ [OD.st (.lst xs)] = (Ts ++ [D.lst xs]).map .st := by simp
  simp only [runM, outsOf, fSeq, fRet, fAsg, gN, fFz, fPeek, fBack, fDrop, fBin, fUn, fC, fCons, fNil, fLend, fCall, fCallK, pick, List.filterMap_cons, List.filterMap_nil, putBack, fIfS, fB, fNot, fAnd, fOr, fAndV, fOrV, fNext, fIf, fX, fLst, fTup, fMov, fPar, gs2, gs3, gT, gsCons, gsNil, fYes, gAdd_i, gLt_i, gSub_i, gDiv_i, gMod_i, gGt_i, gLe_i, gGe_i, gInt_i, gNeg_i, gAbs_i, gMax_i, gMin_i, OD.val, valL, valL_st, fItS, fFor, fLc, wipeR, fPart, fNoPart, fSl, fAppend, fExtend, fPop, fGet2, fD1, fDNew, keyD, gSetQ, gSetI, gSetD, stK_map, fItR1, fLRg, List.getElem?_cons_succ, List.getElem?_cons_zero, List.set_cons_succ, List.set_cons_zero, List.length_cons, List.length_nil, List.map_cons, List.map_nil, Option.map_some, Option.map_none, Nat.zero_add, Nat.reduceAdd, Nat.reduceLT, Nat.reduceEqDiff, and_self, big0, big1, big2, big3, big4, big5, if_true, if_false, ite_true, ite_false, Bool.not_true, Bool.not_false, Bool.true_and, Bool.false_and,R5B, e1, e2, v, if_pos hb, ee]
theorem r5_non {x0 : OD} {s1 s2 s3 s4 s5 s7 s8 : Option OD} {F : D} (e1 : gNe (.st F) (.ol []) = some (.st (.bl false))) :
    R5B [some x0, s1, s2, s3, s4, s5, some (.st F), s7, s8, none] = some (.nx [some x0, s1, s2, s3, s4, s5, some (.st F), s7, s8, none]) := by
  simp only [runM, outsOf, fSeq, fRet, fAsg, gN, fFz, fPeek, fBack, fDrop, fBin, fUn, fC, fCons, fNil, fLend, fCall, fCallK, pick, List.filterMap_cons, List.filterMap_nil, putBack, fIfS, fB, fNot, fAnd, fOr, fAndV, fOrV, fNext, fIf, fX, fLst, fTup, fMov, fPar, gs2, gs3, gT, gsCons, gsNil, fYes, gAdd_i, gLt_i, gSub_i, gDiv_i, gMod_i, gGt_i, gLe_i, gGe_i, gInt_i, gNeg_i, gAbs_i, gMax_i, gMin_i, OD.val, valL, valL_st, fItS, fFor, fLc, wipeR, fPart, fNoPart, fSl, fAppend, fExtend, fPop, fGet2, fD1, fDNew, keyD, gSetQ, gSetI, gSetD, stK_map, fItR1, fLRg, List.getElem?_cons_succ, List.getElem?_cons_zero, List.set_cons_succ, List.set_cons_zero, List.length_cons, List.length_nil, List.map_cons, List.map_nil, Option.map_some, Option.map_none, Nat.zero_add, Nat.reduceAdd, Nat.reduceLT, Nat.reduceEqDiff, and_self, big0, big1, big2, big3, big4, big5, if_true, if_false, ite_true, ite_false, Bool.not_true, Bool.not_false, Bool.true_and, Bool.false_and,R5B, e1]
theorem r6_ok {s0 s1 s2 s8 : Option OD} {q L S : D} {Ts : List D} (hl : Ts.length ≤ 400) (h : ∀ d ∈ Ts, m_law_judged [.st L, .st q, .st S, .st d] = some (.st (.bl true), [none, none, none, none])) :
    R6 [s0, s1, s2, some (.st q), some (.st L), some (.st S), s6, some (.ol (Ts.map .st)), s8, none] = some (.nx [s0, s1, s2, some (.st q), some (.st L), some (.st S), s6, some (.st (.lst Ts)), s8, none]) := by
  have e1 := compL_pure (own := [9]) (tg := gN 9) (tt := fYes) (te := (fFz (fE (fCall m_law_judged (fCons (fFz (fP 4)) (fCons (fFz (fP 3)) (fCons (fFz (fP 5)) (fCons (fFz (fP 9)) fNil)))) [none, none, none, none])))) (ρ0 := [s0, s1, s2, some (.st q), some (.st L), some (.st S), s6, some (.st (.lst Ts)), s8, none])
    (p := fun _ => true) (g := fun _ => .st (.bl true)) (ds := Ts) (acc := []) (by
      intro d hd
      have e2 := h d hd
      refine ⟨[s0, s1, s2, some (.st q), some (.st L), some (.st S), s6, some (.st (.lst Ts)), s8, some (.st d)], [s0, s1, s2, some (.st q), some (.st L), some (.st S), s6, some (.st (.lst Ts)), s8, some (.st d)], by simp [gN], rfl, (fun z => nomatch z), fun _ => ⟨[s0, s1, s2, some (.st q), some (.st L), some (.st S), s6, some (.st (.lst Ts)), s8, some (.st d)], ?_, by simp [wipeR]⟩⟩
      simp only [runM, outsOf, fSeq, fRet, fAsg, gN, fFz, fPeek, fBack, fDrop, fBin, fUn, fC, fCons, fNil, fLend, fCall, fCallK, pick, List.filterMap_cons, List.filterMap_nil, putBack, fIfS, fB, fNot, fAnd, fOr, fAndV, fOrV, fNext, fIf, fX, fLst, fTup, fMov, fPar, gs2, gs3, gT, gsCons, gsNil, fYes, gAdd_i, gLt_i, gSub_i, gDiv_i, gMod_i, gGt_i, gLe_i, gGe_i, gInt_i, gNeg_i, gAbs_i, gMax_i, gMin_i, OD.val, valL, valL_st, fItS, fFor, fLc, wipeR, fPart, fNoPart, fSl, fAppend, fExtend, fPop, fGet2, fD1, fDNew, keyD, gSetQ, gSetI, gSetD, stK_map, fItR1, fLRg, List.getElem?_cons_succ, List.getElem?_cons_zero, List.set_cons_succ, List.set_cons_zero, List.length_cons, List.length_nil, List.map_cons, List.map_nil, Option.map_some, Option.map_none, Nat.zero_add, Nat.reduceAdd, Nat.reduceLT, Nat.reduceEqDiff, and_self, big0, big1, big2, big3, big4, big5, if_true, if_false, ite_true, ite_false, Bool.not_true, Bool.not_false, Bool.true_and, Bool.false_and,e2]) (by simp [big]; omega)
  have e1' : (Ts.filter fun _ => true).map (fun _ => OD.st (.bl true)) = (Ts.map fun _ => D.bl true).map .st := by
    rw [List.filter_eq_self.mpr (fun _ _ => rfl), List.map_map]
    rfl
  rw [List.nil_append, e1'] at e1
  have e4 := all_true Ts
  have v : valL (Ts.map .st) = Ts := by
    have := val_ol Ts
    injection this
  simp only [runM, outsOf, fSeq, fRet, fAsg, gN, fFz, fPeek, fBack, fDrop, fBin, fUn, fC, fCons, fNil, fLend, fCall, fCallK, pick, List.filterMap_cons, List.filterMap_nil, putBack, fIfS, fB, fNot, fAnd, fOr, fAndV, fOrV, fNext, fIf, fX, fLst, fTup, fMov, fPar, gs2, gs3, gT, gsCons, gsNil, fYes, gAdd_i, gLt_i, gSub_i, gDiv_i, gMod_i, gGt_i, gLe_i, gGe_i, gInt_i, gNeg_i, gAbs_i, gMax_i, gMin_i, OD.val, valL, valL_st, fItS, fFor, fLc, wipeR, fPart, fNoPart, fSl, fAppend, fExtend, fPop, fGet2, fD1, fDNew, keyD, gSetQ, gSetI, gSetD, stK_map, fItR1, fLRg, List.getElem?_cons_succ, List.getElem?_cons_zero, List.set_cons_succ, List.set_cons_zero, List.length_cons, List.length_nil, List.map_cons, List.map_nil, Option.map_some, Option.map_none, Nat.zero_add, Nat.reduceAdd, Nat.reduceLT, Nat.reduceEqDiff, and_self, big0, big1, big2, big3, big4, big5, if_true, if_false, ite_true, ite_false, Bool.not_true, Bool.not_false, Bool.true_and, Bool.false_and,R6, R6L, v, e1, e4]
theorem rtB_ok {o : OD} (hp : PotOk o) {s1 s2 s3 s4 s5 s6 s7 s8 : Option OD} : ∃ o' t2 t3 t4 t5 t6 t7 t8, RtB [some o, s1, s2, s3, s4, s5, s6, s7, s8, none] = some (.nx [some o', s1, t2, t3, t4, t5, t6, t7, t8, none]) ∧ PotOk o' := by
  obtain ⟨ws, q, o1, e1, hp1, hw, nd, hq⟩ := scene_ok hp
  have hW := hw.perm (sw_perm ws)
  have e3 := steps_ok hq hw
  rw [← bT_perm q (sw_perm ws)] at e3
  have h := bT_ok (q := q) hW.ne hq.len hW.num
  have hlow := sT_low hq hW
  have h39 := sT_39 hq hW
  have hA := sT_len' h
  have el := len_q hq.len
  obtain ⟨P, o2, e4, hp2, hP, hPl⟩ := gone_ok h hlow (N := (q.length : Int)) (by omega) hp1
  have hj := fun (d : D) (hd : Thg d) => judged_ok hq hW hd
  have hmk := fun (ρ ρ1 : Rho) (hf : (fCons (fFz (fP 2)) fNil) ρ = some ([.st (.lst (wD ws))], ρ1)) => make_ok hw nd hf
  generalize sT (bT q (sw ws)) = A at *
  have hPi : ∀ x ∈ sD P, Itm x := fun x hx => by
    obtain ⟨s, hs, rfl⟩ := List.mem_map.mp hx
    exact hlow.itm (hP s hs)
  have hne := ne_l0 P (fun t ht => strOk_sok (fun c hc => by have := (hlow.wd t (hP t ht)).1 c hc; omega))
  have a1 := r1_ok (s1 := s1) (s2 := s2) (s3 := s3) (s4 := s4) (s5 := s5) (s6 := s6) (s7 := s7) (s8 := s8) e1
  have a2 := r2_ok (x0 := o1) (s1 := s1) (s4 := s4) (s5 := s5) (s6 := s6) (s7 := s7) (s8 := s8) hmk e3
  have a3 := r3_ok (s1 := s1) (s2 := some (.st (.lst (wD ws)))) (s4 := some (.st (lotD (sw ws)))) (s6 := s6) (s7 := s7) (s8 := s8) (val_ol _) el e4
  have a4 := r4_ok (X := sD P) (s0 := some o2) (s1 := s1) (s2 := some (.st (.lst (wD ws)))) (s3 := some (.st (.str (tx q)))) (s4 := some (.st (lotD (sw ws)))) (s5 := some (.st (.lst (sD A)))) (s7 := s7) (s8 := s8) (by simp; omega)
  have lp := loopF_inv (tg := gN 8) (body := R5B) (I := fun i ρ => ∃ o Ts t8, PotOk o ∧ (∀ d ∈ Ts, Thg d) ∧ Ts.length ≤ 14 + i ∧ ρ = [some o, s1, some (.st (.lst (wD ws))), some (.st (.str (tx q))), some (.st (lotD (sw ws))), some (.st (.lst (sD A))), some (.st (.lst (sD P))), some (.ol (Ts.map .st)), t8, none])
    (ds := rngD 0 8) (i := 0) (ρ := [some o2, s1, some (.st (.lst (wD ws))), some (.st (.str (tx q))), some (.st (lotD (sw ws))), some (.st (.lst (sD A))), some (.st (.lst (sD P))), some (.ol ((th14 (sD P)).map .st)), s8, none]) ⟨_, _, _, hp2, th14_ok hPi (by simp; omega), by simp, rfl⟩ (by
      rintro i d ρ hd ⟨o, Ts, t8, hpo, hT, hTl, rfl⟩
      have hi : i < 8 := by
        have := (List.getElem?_eq_some_iff.mp hd).1
        simpa [rngD] using this
      by_cases h0 : P = []
      · have e5 : gNe (.st (.lst (sD P))) (.ol []) = some (.st (.bl false)) := by rw [hne]; simp [h0]
        have e6 := r5_non (x0 := o) (s1 := s1) (s2 := some (.st (.lst (wD ws)))) (s3 := some (.st (.str (tx q)))) (s4 := some (.st (lotD (sw ws)))) (s5 := some (.st (.lst (sD A)))) (s7 := some (.ol (Ts.map .st))) (s8 := some (.st d)) e5
        exact ⟨_, _, by simp only [runM, outsOf, fSeq, fRet, fAsg, gN, fFz, fPeek, fBack, fDrop, fBin, fUn, fC, fCons, fNil, fLend, fCall, fCallK, pick, List.filterMap_cons, List.filterMap_nil, putBack, fIfS, fB, fNot, fAnd, fOr, fAndV, fOrV, fNext, fIf, fX, fLst, fTup, fMov, fPar, gs2, gs3, gT, gsCons, gsNil, fYes, gAdd_i, gLt_i, gSub_i, gDiv_i, gMod_i, gGt_i, gLe_i, gGe_i, gInt_i, gNeg_i, gAbs_i, gMax_i, gMin_i, OD.val, valL, valL_st, fItS, fFor, fLc, wipeR, fPart, fNoPart, fSl, fAppend, fExtend, fPop, fGet2, fD1, fDNew, keyD, gSetQ, gSetI, gSetD, stK_map, fItR1, fLRg, List.getElem?_cons_succ, List.getElem?_cons_zero, List.set_cons_succ, List.set_cons_zero, List.length_cons, List.length_nil, List.map_cons, List.map_nil, Option.map_some, Option.map_none, Nat.zero_add, Nat.reduceAdd, Nat.reduceLT, Nat.reduceEqDiff, and_self, big0, big1, big2, big3, big4, big5, if_true, if_false, ite_true, ite_false, Bool.not_true, Bool.not_false, Bool.true_and, Bool.false_and], e6, o, Ts, _, hpo, hT, by omega, rfl⟩
      · have e5 : gNe (.st (.lst (sD P))) (.ol []) = some (.st (.bl true)) := by rw [hne]; simp [h0]
        obtain ⟨xs, o', e6, hp', hx, hxl⟩ := bent_ok hlow h39 (by omega) hP (by omega) h0 hpo
        have e7 := r5_gen (s1 := s1) (s2 := some (.st (.lst (wD ws)))) (s3 := some (.st (.str (tx q)))) (s4 := some (.st (lotD (sw ws)))) (s8 := some (.st d)) (Ts := Ts) e5 e6 (by omega)
        refine ⟨_, _, by simp only [runM, outsOf, fSeq, fRet, fAsg, gN, fFz, fPeek, fBack, fDrop, fBin, fUn, fC, fCons, fNil, fLend, fCall, fCallK, pick, List.filterMap_cons, List.filterMap_nil, putBack, fIfS, fB, fNot, fAnd, fOr, fAndV, fOrV, fNext, fIf, fX, fLst, fTup, fMov, fPar, gs2, gs3, gT, gsCons, gsNil, fYes, gAdd_i, gLt_i, gSub_i, gDiv_i, gMod_i, gGt_i, gLe_i, gGe_i, gInt_i, gNeg_i, gAbs_i, gMax_i, gMin_i, OD.val, valL, valL_st, fItS, fFor, fLc, wipeR, fPart, fNoPart, fSl, fAppend, fExtend, fPop, fGet2, fD1, fDNew, keyD, gSetQ, gSetI, gSetD, stK_map, fItR1, fLRg, List.getElem?_cons_succ, List.getElem?_cons_zero, List.set_cons_succ, List.set_cons_zero, List.length_cons, List.length_nil, List.map_cons, List.map_nil, Option.map_some, Option.map_none, Nat.zero_add, Nat.reduceAdd, Nat.reduceLT, Nat.reduceEqDiff, and_self, big0, big1, big2, big3, big4, big5, if_true, if_false, ite_true, ite_false, Bool.not_true, Bool.not_false, Bool.true_and, Bool.false_and], e7, o', Ts ++ [.lst xs], _, hp', fun y hy => ?_, by simp; omega, rfl⟩
        rcases List.mem_append.mp hy with z | z
        · exact hT y z
        · have : y = .lst xs := by simpa using z
          rw [this]; exact .lst hx (by omega))
  obtain ⟨ρ', e8, o3, Ts, t8, hp3, hT, hTl, rfl⟩ := lp
  have hTl' : Ts.length ≤ 30 := by simp [rngD] at hTl; omega
  have a6 := r6_ok (s0 := some o3) (s1 := s1) (s2 := some (.st (.lst (wD ws)))) (s6 := some (.st (.lst (sD P)))) (s8 := t8) (by omega) (fun d hd => hj d (hT d hd))
  have c3 : -(2 ^ 62) ≤ (8 : Int) ∧ (8 : Int) < 2 ^ 62 := by decide
  have t3 : (8 : Int).toNat = 8 := rfl
  have a5 : R5 [some o2, s1, some (.st (.lst (wD ws))), some (.st (.str (tx q))), some (.st (lotD (sw ws))), some (.st (.lst (sD A))), some (.st (.lst (sD P))), some (.ol ((th14 (sD P)).map .st)), s8, none] = some (.nx [some o3, s1, some (.st (.lst (wD ws))), some (.st (.str (tx q))), some (.st (lotD (sw ws))), some (.st (.lst (sD A))), some (.st (.lst (sD P))), some (.ol (Ts.map .st)), t8, none]) := by
    simp only [R5, fFor, fItR1, fCons, fNil, fC, if_pos c3, t3]
    exact e8
  refine ⟨o3, some (.st (.lst (wD ws))), some (.st (.str (tx q))), some (.st (lotD (sw ws))), some (.st (.lst (sD A))), some (.st (.lst (sD P))), some (.st (.lst Ts)), t8, ?_, hp3⟩
  simp only [RtB, fSeq, a1, a2, a3, a4, a5, a6]
theorem right_ok {o : OD} (hp : PotOk o) : ∃ o', m_law_right [o] = some (.st (.bl true), [some o']) := by
  have lp := loopF_inv (tg := gN 1) (body := RtB) (I := fun i ρ => ∃ o s1 s2 s3 s4 s5 s6 s7 s8, PotOk o ∧ ρ = [some o, s1, s2, s3, s4, s5, s6, s7, s8, none])
    (ds := rngD 0 4) (i := 0) (ρ := [some o, none, none, none, none, none, none, none, none, none]) ⟨_, _, _, _, _, _, _, _, _, hp, rfl⟩ (by
      rintro i d ρ hd ⟨o, s1, s2, s3, s4, s5, s6, s7, s8, hp, rfl⟩
      obtain ⟨o', t2, t3, t4, t5, t6, t7, t8, e, hp'⟩ := rtB_ok hp (s1 := some (.st d)) (s2 := s2) (s3 := s3) (s4 := s4) (s5 := s5) (s6 := s6) (s7 := s7) (s8 := s8)
      exact ⟨_, _, by simp only [runM, outsOf, fSeq, fRet, fAsg, gN, fFz, fPeek, fBack, fDrop, fBin, fUn, fC, fCons, fNil, fLend, fCall, fCallK, pick, List.filterMap_cons, List.filterMap_nil, putBack, fIfS, fB, fNot, fAnd, fOr, fAndV, fOrV, fNext, fIf, fX, fLst, fTup, fMov, fPar, gs2, gs3, gT, gsCons, gsNil, fYes, gAdd_i, gLt_i, gSub_i, gDiv_i, gMod_i, gGt_i, gLe_i, gGe_i, gInt_i, gNeg_i, gAbs_i, gMax_i, gMin_i, OD.val, valL, valL_st, fItS, fFor, fLc, wipeR, fPart, fNoPart, fSl, fAppend, fExtend, fPop, fGet2, fD1, fDNew, keyD, gSetQ, gSetI, gSetD, stK_map, fItR1, fLRg, List.getElem?_cons_succ, List.getElem?_cons_zero, List.set_cons_succ, List.set_cons_zero, List.length_cons, List.length_nil, List.map_cons, List.map_nil, Option.map_some, Option.map_none, Nat.zero_add, Nat.reduceAdd, Nat.reduceLT, Nat.reduceEqDiff, and_self, big0, big1, big2, big3, big4, big5, if_true, if_false, ite_true, ite_false, Bool.not_true, Bool.not_false, Bool.true_and, Bool.false_and], e, o', _, _, _, _, _, _, _, _, hp', rfl⟩)
  obtain ⟨ρ', e7, o5, s1, s2, s3, s4, s5, s6, s7, s8, hp5, rfl⟩ := lp
  refine ⟨o5, ?_⟩
  have e0 : rho0 N_law_right [o] = [some o, none, none, none, none, none, none, none, none, none] := rfl
  have c3 : -(2 ^ 62) ≤ (4 : Int) ∧ (4 : Int) < 2 ^ 62 := by decide
  have t3 : (4 : Int).toNat = 4 := rfl
  rw [m_law_right, runM, rightF]
  generalize hg : RtB = g at *
  simp only [runM, outsOf, fSeq, fRet, fAsg, gN, fFz, fPeek, fBack, fDrop, fBin, fUn, fC, fCons, fNil, fLend, fCall, fCallK, pick, List.filterMap_cons, List.filterMap_nil, putBack, fIfS, fB, fNot, fAnd, fOr, fAndV, fOrV, fNext, fIf, fX, fLst, fTup, fMov, fPar, gs2, gs3, gT, gsCons, gsNil, fYes, gAdd_i, gLt_i, gSub_i, gDiv_i, gMod_i, gGt_i, gLe_i, gGe_i, gInt_i, gNeg_i, gAbs_i, gMax_i, gMin_i, OD.val, valL, valL_st, fItS, fFor, fLc, wipeR, fPart, fNoPart, fSl, fAppend, fExtend, fPop, fGet2, fD1, fDNew, keyD, gSetQ, gSetI, gSetD, stK_map, fItR1, fLRg, List.getElem?_cons_succ, List.getElem?_cons_zero, List.set_cons_succ, List.set_cons_zero, List.length_cons, List.length_nil, List.map_cons, List.map_nil, Option.map_some, Option.map_none, Nat.zero_add, Nat.reduceAdd, Nat.reduceLT, Nat.reduceEqDiff, and_self, big0, big1, big2, big3, big4, big5, if_true, if_false, ite_true, ite_false, Bool.not_true, Bool.not_false, Bool.true_and, Bool.false_and,e0, c3, t3, hg, e7]
end Lw
set_option Elab.async false
set_option linter.all false
set_option maxRecDepth 100000
set_option maxHeartbeats 400000
namespace Lw
open PySem L2 Qy
def PtR : Fs := (fRet (fLst (fCons (fBin gMax2 (fE (fC (.int 0))) (fE (fBin gSubI (fP 2) (fE (fBin gPow (fE (fC (.int 10))) (fE (fC (.int 18)))))))) (fCons (fBin gAdd (fE (fBin gMod (fE (fBin gMul (fE (fUn gInt (fE (fBin gAdd (fE (fBin gMod (fE (fUn gInt (fP 2))) (fE (fC (.int 2147483549))))) (fE (fC (.int 41))))))) (fE (fBin gPow (fE (fBin gAdd (fE (fBin gMul (fE (fC (.int 2))) (fP 1))) (fE (fC (.int 5))))) (fE (fC (.int 3))))))) (fE (fC (.int 2147483579))))) (fE (fC (.int 1)))) fNil))))
theorem pot_ok {ns : List Int} {k : Nat} (hk : k ≤ 10) (hl : ns.length ≤ 63) : ∃ o, m_law_pot [.st (.scr ns), .st (.int (k : Int))] = some (o, [none, none]) ∧ PotOk o := by
  have main : ∀ seed : Int, 0 ≤ seed → ∃ o, PtR [some (.st (.scr ns)), some (.st (.int (k : Int))), some (.st (.int seed))] = some (.rt o [some (.st (.scr ns)), some (.st (.int (k : Int))), some (.st (.int seed))]) ∧ PotOk o := fun seed hs => by
    have h1 : 0 ≤ seed % 2147483549 := Int.emod_nonneg _ (by omega)
    have h2 : seed % 2147483549 < 2147483549 := Int.emod_lt_of_pos _ (by omega)
    have p1 : gPow (.st (.int 10)) (.st (.int 18)) = some (.st (.int 1000000000000000000)) := by
      rw [gPow_i, if_pos ⟨by omega, by omega, by decide⟩]
      rfl
    have m1 : gMul (.st (.int 2)) (.st (.int (k : Int))) = some (.st (.int (2 * (k : Int)))) := by
      rw [gMul_i, if_pos (.inl (by omega))]
    have p2 : gPow (.st (.int (2 * (k : Int) + 5))) (.st (.int 3)) = some (.st (.int ((2 * (k : Int) + 5) ^ 3))) := by
      rw [gPow_i, if_pos ⟨by omega, by omega, by omega⟩]
      rfl
    have m2 : gMul (.st (.int (seed % 2147483549 + 41))) (.st (.int ((2 * (k : Int) + 5) ^ 3))) = some (.st (.int ((seed % 2147483549 + 41) * (2 * (k : Int) + 5) ^ 3))) := by
      rw [gMul_i, if_pos (.inl (by omega))]
    have g1 : gMod (.st (.int seed)) (.st (.int 2147483549)) = some (.st (.int (seed % 2147483549))) := by rw [gMod_i, if_pos (by omega)]
    have g2 : ∀ x : Int, gMod (.st (.int x)) (.st (.int 2147483579)) = some (.st (.int (x % 2147483579))) := fun x => by rw [gMod_i, if_pos (by omega)]
    refine ⟨pot (if seed - 1000000000000000000 > 0 then seed - 1000000000000000000 else 0) (((seed % 2147483549 + 41) * (2 * (k : Int) + 5) ^ 3) % 2147483579 + 1), ?_, _, _, rfl, by split <;> omega, ?_, ?_⟩
    · simp only [PtR, fRet, fLst, fCons, fNil, fBin, fUn, fE, fC, fP, fPeek, fBack, fDrop, List.getElem?_cons_succ, List.getElem?_cons_zero, List.set_cons_succ, List.set_cons_zero, p1, gSub_i, gMax_i, gInt_i, g1, gAdd_i, m1, p2, m2, g2, List.length_cons, List.length_nil, Nat.zero_add, Nat.reduceAdd, big2, if_true]
    · have : 0 ≤ ((seed % 2147483549 + 41) * (2 * (k : Int) + 5) ^ 3) % 2147483579 := Int.emod_nonneg _ (by omega)
      omega
    · have : ((seed % 2147483549 + 41) * (2 * (k : Int) + 5) ^ 3) % 2147483579 < 2147483579 := Int.emod_lt_of_pos _ (by omega)
      omega
  have m0 : gMul (.st (.int 59)) (.st (.int (k : Int))) = some (.st (.int (59 * (k : Int)))) := by
    rw [gMul_i, if_pos (.inl (by omega))]
  have el : gLen (.st (.scr ns)) = some (.st (.int (ns.length : Int))) := rfl
  have e0 : rho0 N_law_pot [.st (.scr ns), .st (.int (k : Int))] = [some (.st (.scr ns)), some (.st (.int (k : Int))), none] := rfl
  have eF : F_law_pot = (fSeq (fAsg (fBin gAdd (fE (fBin gMul (fE (fC (.int 59))) (fP 1))) (fE (fC (.int 43)))) (gN 2)) (fSeq (fIfS (fB (fBin gLt (fP 1) (fE (fUn gLen (fP 0))))) (fAsg (fUn gAbs (fE (fBin gIx (fP 0) (fP 1)))) (gN 2)) fNext) PtR)) := rfl
  by_cases h : k < ns.length
  · have hd : decide ((k : Int) < (ns.length : Int)) = true := by simpa using h
    have ei : gIx (.st (.scr ns)) (.st (.int (k : Int))) = some (.st (.int ns[k])) := by
      show (atI ns (k : Int)).map (fun n => OD.st (.int n)) = _
      rw [atI_nat (List.getElem?_eq_getElem h)]
      rfl
    obtain ⟨o, e, hp⟩ := main (if ns[k] < 0 then -ns[k] else ns[k]) (by split <;> omega)
    refine ⟨o, ?_, hp⟩
    rw [m_law_pot, runM, eF]
    simp only [runM, outsOf, fSeq, fRet, fAsg, gN, fFz, fPeek, fBack, fDrop, fBin, fUn, fC, fCons, fNil, fLend, fCall, fCallK, pick, List.filterMap_cons, List.filterMap_nil, putBack, fIfS, fB, fNot, fAnd, fOr, fAndV, fOrV, fNext, fIf, fX, fLst, fTup, fMov, fPar, gs2, gs3, gT, gsCons, gsNil, fYes, gAdd_i, gLt_i, gSub_i, gDiv_i, gMod_i, gGt_i, gLe_i, gGe_i, gInt_i, gNeg_i, gAbs_i, gMax_i, gMin_i, OD.val, valL, valL_st, fItS, fFor, fLc, wipeR, fPart, fNoPart, fSl, fAppend, fExtend, fPop, fGet2, fD1, fDNew, keyD, gSetQ, gSetI, gSetD, stK_map, fItR1, fLRg, List.getElem?_cons_succ, List.getElem?_cons_zero, List.set_cons_succ, List.set_cons_zero, List.length_cons, List.length_nil, List.map_cons, List.map_nil, Option.map_some, Option.map_none, Nat.zero_add, Nat.reduceAdd, Nat.reduceLT, Nat.reduceEqDiff, and_self, big0, big1, big2, big3, big4, big5, if_true, if_false, ite_true, ite_false, Bool.not_true, Bool.not_false, Bool.true_and, Bool.false_and,e0, m0, el, hd, ei, e]
  · have hd : decide ((k : Int) < (ns.length : Int)) = false := by simpa using h
    obtain ⟨o, e, hp⟩ := main (59 * (k : Int) + 43) (by omega)
    refine ⟨o, ?_, hp⟩
    rw [m_law_pot, runM, eF]
    simp only [runM, outsOf, fSeq, fRet, fAsg, gN, fFz, fPeek, fBack, fDrop, fBin, fUn, fC, fCons, fNil, fLend, fCall, fCallK, pick, List.filterMap_cons, List.filterMap_nil, putBack, fIfS, fB, fNot, fAnd, fOr, fAndV, fOrV, fNext, fIf, fX, fLst, fTup, fMov, fPar, gs2, gs3, gT, gsCons, gsNil, fYes, gAdd_i, gLt_i, gSub_i, gDiv_i, gMod_i, gGt_i, gLe_i, gGe_i, gInt_i, gNeg_i, gAbs_i, gMax_i, gMin_i, OD.val, valL, valL_st, fItS, fFor, fLc, wipeR, fPart, fNoPart, fSl, fAppend, fExtend, fPop, fGet2, fD1, fDNew, keyD, gSetQ, gSetI, gSetD, stK_map, fItR1, fLRg, List.getElem?_cons_succ, List.getElem?_cons_zero, List.set_cons_succ, List.set_cons_zero, List.length_cons, List.length_nil, List.map_cons, List.map_nil, Option.map_some, Option.map_none, Nat.zero_add, Nat.reduceAdd, Nat.reduceLT, Nat.reduceEqDiff, and_self, big0, big1, big2, big3, big4, big5, if_true, if_false, ite_true, ite_false, Bool.not_true, Bool.not_false, Bool.true_and, Bool.false_and,e0, m0, el, hd, e]
theorem law_true : ∀ ns : List Int, ns.length ≤ 63 → ∃ outs, m_law [.st (.scr ns)] = some (.st (.bl true), outs) ∧ outs.length = 1 := by
  intro ns hl
  refine ⟨[none], ?_, rfl⟩
  have el : gLen (.st (.scr ns)) = some (.st (.int (ns.length : Int))) := rfl
  have e0 : rho0 N_law [.st (.scr ns)] = [some (.st (.scr ns)), none] := rfl
  obtain ⟨m, hm, hm2⟩ : ∃ m : Nat, m ≤ 5 ∧ (if (if (5 : Int) < (ns.length : Int) then (5 : Int) else (ns.length : Int)) > 2 then (if (5 : Int) < (ns.length : Int) then (5 : Int) else (ns.length : Int)) else 2) = (m : Int) := by
    refine ⟨(if (if (5 : Int) < (ns.length : Int) then (5 : Int) else (ns.length : Int)) > 2 then (if (5 : Int) < (ns.length : Int) then (5 : Int) else (ns.length : Int)) else 2).toNat, ?_, ?_⟩
    · split <;> split <;> omega
    · split <;> split <;> omega
  have c3 : -(2 ^ 62) ≤ (m : Int) ∧ (m : Int) < 2 ^ 62 := by omega
  have t3 : (m : Int).toNat = m := by omega
  have e1 := compL_pure (own := [1]) (tg := gN 1) (tt := fYes) (te := (fFz (fE (fCall m_law_right (fCons (fCall m_law_pot (fCons (fFz (fP 0)) (fCons (fFz (fP 1)) fNil)) [none, none]) fNil) [none])))) (ρ0 := [some (.st (.scr ns)), none])
    (p := fun _ => true) (g := fun _ => .st (.bl true)) (ds := rngD 0 m) (acc := []) (by
      intro d hd
      obtain ⟨k, hk, rfl⟩ := rng_mem hd
      obtain ⟨o, e2, hp⟩ := pot_ok (ns := ns) (k := k) (by omega) hl
      obtain ⟨o', e3⟩ := right_ok hp
      refine ⟨[some (.st (.scr ns)), some (.st (.int (k : Int)))], [some (.st (.scr ns)), some (.st (.int (k : Int)))], by simp [gN], rfl, (fun z => nomatch z), fun _ => ⟨[some (.st (.scr ns)), some (.st (.int (k : Int)))], ?_, by simp [wipeR]⟩⟩
      simp only [runM, outsOf, fSeq, fRet, fAsg, gN, fFz, fPeek, fBack, fDrop, fBin, fUn, fC, fCons, fNil, fLend, fCall, fCallK, pick, List.filterMap_cons, List.filterMap_nil, putBack, fIfS, fB, fNot, fAnd, fOr, fAndV, fOrV, fNext, fIf, fX, fLst, fTup, fMov, fPar, gs2, gs3, gT, gsCons, gsNil, fYes, gAdd_i, gLt_i, gSub_i, gDiv_i, gMod_i, gGt_i, gLe_i, gGe_i, gInt_i, gNeg_i, gAbs_i, gMax_i, gMin_i, OD.val, valL, valL_st, fItS, fFor, fLc, wipeR, fPart, fNoPart, fSl, fAppend, fExtend, fPop, fGet2, fD1, fDNew, keyD, gSetQ, gSetI, gSetD, stK_map, fItR1, fLRg, List.getElem?_cons_succ, List.getElem?_cons_zero, List.set_cons_succ, List.set_cons_zero, List.length_cons, List.length_nil, List.map_cons, List.map_nil, Option.map_some, Option.map_none, Nat.zero_add, Nat.reduceAdd, Nat.reduceLT, Nat.reduceEqDiff, and_self, big0, big1, big2, big3, big4, big5, if_true, if_false, ite_true, ite_false, Bool.not_true, Bool.not_false, Bool.true_and, Bool.false_and,e2, e3]) (by simp [rngD, big]; omega)
  have e1' : ((rngD 0 m).filter fun _ => true).map (fun _ => OD.st (.bl true)) = ((rngD 0 m).map fun _ => D.bl true).map .st := by
    rw [List.filter_eq_self.mpr (fun _ _ => rfl), List.map_map]
    rfl
  rw [List.nil_append, e1'] at e1
  have e4 := all_true (rngD 0 m)
  simp only [runM, outsOf, fSeq, fRet, fAsg, gN, fFz, fPeek, fBack, fDrop, fBin, fUn, fC, fCons, fNil, fLend, fCall, fCallK, pick, List.filterMap_cons, List.filterMap_nil, putBack, fIfS, fB, fNot, fAnd, fOr, fAndV, fOrV, fNext, fIf, fX, fLst, fTup, fMov, fPar, gs2, gs3, gT, gsCons, gsNil, fYes, gAdd_i, gLt_i, gSub_i, gDiv_i, gMod_i, gGt_i, gLe_i, gGe_i, gInt_i, gNeg_i, gAbs_i, gMax_i, gMin_i, OD.val, valL, valL_st, fItS, fFor, fLc, wipeR, fPart, fNoPart, fSl, fAppend, fExtend, fPop, fGet2, fD1, fDNew, keyD, gSetQ, gSetI, gSetD, stK_map, fItR1, fLRg, List.getElem?_cons_succ, List.getElem?_cons_zero, List.set_cons_succ, List.set_cons_zero, List.length_cons, List.length_nil, List.map_cons, List.map_nil, Option.map_some, Option.map_none, Nat.zero_add, Nat.reduceAdd, Nat.reduceLT, Nat.reduceEqDiff, and_self, big0, big1, big2, big3, big4, big5, if_true, if_false, ite_true, ite_false, Bool.not_true, Bool.not_false, Bool.true_and, Bool.false_and,m_law, F_law, e0, el, hm2, c3, t3, e1, e4]
end Lw
set_option Elab.async false
set_option linter.all false
set_option maxRecDepth 100000
set_option maxHeartbeats 0
namespace Lw
open PySem PySem.Spec PyProof.Rows L2 Qy ClX
def d_law_draw : He.DefD := ⟨("_law_draw", none), "_law_draw", "_law_draw", defArgs s_law_draw, defBody s_law_draw, defScope s_law_draw, [], []⟩
def d_law_pick : He.DefD := ⟨("_law_pick", none), "_law_pick", "_law_pick", defArgs s_law_pick, defBody s_law_pick, defScope s_law_pick, [], []⟩
def d_law_term : He.DefD := ⟨("_law_term", none), "_law_term", "_law_term", defArgs s_law_term, defBody s_law_term, defScope s_law_term, [], []⟩
def d_law_asked : He.DefD := ⟨("_law_asked", none), "_law_asked", "_law_asked", defArgs s_law_asked, defBody s_law_asked, defScope s_law_asked, [], []⟩
def d_law_terms : He.DefD := ⟨("_law_terms", none), "_law_terms", "_law_terms", defArgs s_law_terms, defBody s_law_terms, defScope s_law_terms, [], []⟩
def d_law_scene : He.DefD := ⟨("_law_scene", none), "_law_scene", "_law_scene", defArgs s_law_scene, defBody s_law_scene, defScope s_law_scene, [], []⟩
def d_law_far : He.DefD := ⟨("_law_far", none), "_law_far", "_law_far", defArgs s_law_far, defBody s_law_far, defScope s_law_far, [], []⟩
def d_law_gone : He.DefD := ⟨("_law_gone", none), "_law_gone", "_law_gone", defArgs s_law_gone, defBody s_law_gone, defScope s_law_gone, [], []⟩
def d_is_list : He.DefD := ⟨("is_list", none), "is_list", "is_list", defArgs s_is_list, defBody s_is_list, defScope s_is_list, [], []⟩
def d_sorted_words : He.DefD := ⟨("sorted_words", none), "sorted_words", "sorted_words", defArgs s_sorted_words, defBody s_sorted_words, defScope s_sorted_words, [], []⟩
def d_is_word : He.DefD := ⟨("is_word", none), "is_word", "is_word", defArgs s_is_word, defBody s_is_word, defScope s_is_word, [], []⟩
def d_is_kept_word : He.DefD := ⟨("is_kept_word", none), "is_kept_word", "is_kept_word", defArgs s_is_kept_word, defBody s_is_kept_word, defScope s_is_kept_word, [], []⟩
def d_Lot_init : He.DefD := ⟨("Lot", some "__init__"), "__init__", "Lot.__init__", defArgs s_Lot_init, defBody s_Lot_init, defScope s_Lot_init, [.adr (He.dflAt ("Lot", some "__init__") 0)], []⟩
def d_law_found : He.DefD := ⟨("_law_found", none), "_law_found", "_law_found", defArgs s_law_found, defBody s_law_found, defScope s_law_found, [], []⟩
def d_law_links : He.DefD := ⟨("_law_links", none), "_law_links", "_law_links", defArgs s_law_links, defBody s_law_links, defScope s_law_links, [], []⟩
def d_law_steps : He.DefD := ⟨("_law_steps", none), "_law_steps", "_law_steps", defArgs s_law_steps, defBody s_law_steps, defScope s_law_steps, [], []⟩
def d_law_bent : He.DefD := ⟨("_law_bent", none), "_law_bent", "_law_bent", defArgs s_law_bent, defBody s_law_bent, defScope s_law_bent, [], []⟩
def d_law_is_plan : He.DefD := ⟨("_law_is_plan", none), "_law_is_plan", "_law_is_plan", defArgs s_law_is_plan, defBody s_law_is_plan, defScope s_law_is_plan, [], []⟩
def d_is_question : He.DefD := ⟨("is_question", none), "is_question", "is_question", defArgs s_is_question, defBody s_is_question, defScope s_is_question, [], []⟩
def d_want_question : He.DefD := ⟨("want_question", none), "want_question", "want_question", defArgs s_want_question, defBody s_want_question, defScope s_want_question, [], []⟩
def d_stands_at : He.DefD := ⟨("stands_at", none), "stands_at", "stands_at", defArgs s_stands_at, defBody s_stands_at, defScope s_stands_at, [], []⟩
def d_bridges_by : He.DefD := ⟨("bridges_by", none), "bridges_by", "bridges_by", defArgs s_bridges_by, defBody s_bridges_by, defScope s_bridges_by, [], []⟩
def d_bridges_of : He.DefD := ⟨("bridges_of", none), "bridges_of", "bridges_of", defArgs s_bridges_of, defBody s_bridges_of, defScope s_bridges_of, [], []⟩
def d_steps_of : He.DefD := ⟨("steps_of", none), "steps_of", "steps_of", defArgs s_steps_of, defBody s_steps_of, defScope s_steps_of, [], []⟩
def d_is_integer : He.DefD := ⟨("is_integer", none), "is_integer", "is_integer", defArgs s_is_integer, defBody s_is_integer, defScope s_is_integer, [], []⟩
def d_is_count : He.DefD := ⟨("is_count", none), "is_count", "is_count", defArgs s_is_count, defBody s_is_count, defScope s_is_count, [], []⟩
def d_is_step : He.DefD := ⟨("is_step", none), "is_step", "is_step", defArgs s_is_step, defBody s_is_step, defScope s_is_step, [], []⟩
def d_is_plan_of : He.DefD := ⟨("is_plan_of", none), "is_plan_of", "is_plan_of", defArgs s_is_plan_of, defBody s_is_plan_of, defScope s_is_plan_of, [], []⟩
def d_is_plan : He.DefD := ⟨("is_plan", none), "is_plan", "is_plan", defArgs s_is_plan, defBody s_is_plan, defScope s_is_plan, [], []⟩
def d_law_judged : He.DefD := ⟨("_law_judged", none), "_law_judged", "_law_judged", defArgs s_law_judged, defBody s_law_judged, defScope s_law_judged, [], []⟩
def d_law_right : He.DefD := ⟨("_law_right", none), "_law_right", "_law_right", defArgs s_law_right, defBody s_law_right, defScope s_law_right, [], []⟩
def d_law_pot : He.DefD := ⟨("_law_pot", none), "_law_pot", "_law_pot", defArgs s_law_pot, defBody s_law_pot, defScope s_law_pot, [], []⟩
def d_law : He.DefD := ⟨("law", none), "law", "law", defArgs s_law, defBody s_law, defScope s_law, [], []⟩
def fn : List He.DefD := [d_law_draw, d_law_pick, d_law_term, d_law_asked, d_law_terms, d_law_scene, d_law_far, d_law_gone, d_is_list, d_sorted_words, d_is_word, d_is_kept_word, d_Lot_init, d_law_found, d_law_links, d_law_steps, d_law_bent, d_law_is_plan, d_is_question, d_want_question, d_stands_at, d_bridges_by, d_bridges_of, d_steps_of, d_is_integer, d_is_count, d_is_step, d_is_plan_of, d_is_plan, d_law_judged, d_law_right, d_law_pot, d_law]
def fa : List He.Fa := [.glo "_law_draw", .glo "_law_pick", .glo "_law_term", .glo "_law_asked", .glo "_law_terms", .glo "_law_scene", .glo "_law_far", .glo "_law_gone", .glo "is_list", .glo "sorted_words", .glo "is_word", .glo "is_kept_word", .glo "_law_found", .glo "_law_links", .glo "_law_steps", .glo "_law_bent", .glo "_law_is_plan", .glo "is_question", .glo "want_question", .glo "stands_at", .glo "bridges_by", .glo "bridges_of", .glo "steps_of", .glo "is_integer", .glo "is_count", .glo "is_step", .glo "is_plan_of", .glo "is_plan", .glo "_law_judged", .glo "_law_right", .glo "_law_pot", .glo "law", .free "abs", .free "all", .free "bool", .free "divmod", .free "enumerate", .free "int", .free "isinstance", .free "len", .free "list", .free "max", .free "min", .free "range", .free "repr", .free "sorted", .free "str", .free "tuple", .int "MOST_ASKED" 24, .str "SMALL" "abcdefghijklmnopqrstuvwxyz", .glo "Lot", .mkr "Lot", .meth "Lot" "__init__", .cls "Lot", .noat "Lot" "own_words"]
def exL (K : PySem.W.Frag) : List Bool := [PySem.W.readsIn K (He.ga K "Lot") (.type "type"), He.eqO (PySem.W.specialIn K (.ref (He.ga K "Lot")) "__getattribute__") (some (some (.builtin "type.__getattribute__"))), cvB K (He.ga K "Lot") "MOST_LETTERS" 12, cvB K (He.ga K "Lot") "MOST_WORDS" 10]
def exB (K : PySem.W.Frag) : Bool := (exL K).all id
theorem ex_at {K : PySem.W.Frag} (h : exB K = true) (i : Nat) {b : Bool} (e : (exL K)[i]? = some b) : b = true := by
  have := List.all_eq_true.mp h b (List.mem_of_getElem? e)
  simpa using this
def loose0 : List PySem.Str := ["_wall", "__name__", "WalkError", "InvalidWord", "InvalidLot", "InvalidWords", "MissingError", "UnknownWord", "LimitError", "TooMany", "SMALL", "MOST_ASKED", "is_integer", "is_count", "is_list", "is_word", "is_question", "want_question", "sorted_words", "stands_at", "bridges_by", "bridges_of", "steps_of", "is_step", "is_plan_of", "is_plan", "is_kept_word", "want_lot", "Lot", "_law_pot"]
def loose1 : List PySem.Str := ["_law_draw", "_law_pick", "_law_term", "_law_terms", "_law_row", "_law_asked", "_law_found", "_law_links", "_law_scene", "_law_steps", "_law_far", "_law_is_plan", "_law_gone", "_law_bent", "_law_judged", "_law_right"]
abbrev loose : List PySem.Str := loose0 ++ loose1
abbrev R : PySem.W.OpenRow := PySem.W.OpenLaw.row PySem.Challenge.rw_walksback_k32_plans_judged
abbrev hk : PySem.W.Hook := hookQ 5 fa fn exB
def ob (s : PySem.W.SharedT) : AlQ := obsQ 5 fa fn exB (HandSHeadRun.getT s)
theorem ob_eq (s : PySem.W.SharedT) : ob s = hk.obs s.abs := obsQ_eq (HandSHeadRun.getT_eq s)
theorem run (w : World) : HandSHeadRun.RunEq R (PySem.W.view R.prog [51]) hk ob 8000 loose w := by
  intro os
  kernel_rfl
theorem facts {P : Program} {w : World} {K : PySem.W.Frag} {h : Heap} {mg : Str → Option Value} {f : Addr} (X : K.In h) (G : h.Ns mainGlobals mg) (hfa : mg ("law" : Str) = some (.ref f)) (c : He.SaysD fa fn K) (xx : exB K = true) :
    ∃ fd : FuncData, (∀ (s : Shared) (v : Value), BindsTo s fd ⟨[v], []⟩ [("_law_script", v)]) ∧ ∀ base : Heap, K.In base → base.Ns mainGlobals mg → FnG P w K mg base CX0 9 f fd ["_law_script"] (spM K 1 m_law) := by
  have E : Env K mg := { n_abs := He.free_ok X G (c.fact 32 (f := .free "abs") rfl), n_all := He.free_ok X G (c.fact 33 (f := .free "all") rfl), n_bool := He.free_ok X G (c.fact 34 (f := .free "bool") rfl), n_divmod := He.free_ok X G (c.fact 35 (f := .free "divmod") rfl), n_enumerate := He.free_ok X G (c.fact 36 (f := .free "enumerate") rfl), n_int := He.free_ok X G (c.fact 37 (f := .free "int") rfl), n_isinstance := He.free_ok X G (c.fact 38 (f := .free "isinstance") rfl), n_len := He.free_ok X G (c.fact 39 (f := .free "len") rfl), n_list := He.free_ok X G (c.fact 40 (f := .free "list") rfl), n_max := He.free_ok X G (c.fact 41 (f := .free "max") rfl), n_min := He.free_ok X G (c.fact 42 (f := .free "min") rfl), n_range := He.free_ok X G (c.fact 43 (f := .free "range") rfl), n_repr := He.free_ok X G (c.fact 44 (f := .free "repr") rfl), n_sorted := He.free_ok X G (c.fact 45 (f := .free "sorted") rfl), n_str := He.free_ok X G (c.fact 46 (f := .free "str") rfl), n_tuple := He.free_ok X G (c.fact 47 (f := .free "tuple") rfl), c_MOST_ASKED := He.int_ok X G (c.fact 48 (f := .int "MOST_ASKED" 24) rfl), c_SMALL := He.str_ok X G (c.fact 49 (f := .str "SMALL" "abcdefghijklmnopqrstuvwxyz") rfl), cls_Lot := He.cls_ok (c.fact 53 (f := .cls "Lot") rfl), cr_Lot := ⟨ex_at xx 0 rfl, He.eqO_ok (ex_at xx 1 rfl)⟩, cv_Lot_MOST_LETTERS := cvB_ok (ex_at xx 2 rfl), cv_Lot_MOST_WORDS := cvB_ok (ex_at xx 3 rfl), mk_Lot := ⟨He.glo_ok X G (c.fact 50 (f := .glo "Lot") rfl), (He.mkr_ok (c.fact 51 (f := .mkr "Lot") rfl)).makes, (He.mkr_ok (c.fact 51 (f := .mkr "Lot") rfl)).kp⟩, na_Lot_own_words := He.noat_ok (c.fact 54 (f := .noat "Lot" "own_words") rfl) }
  obtain ⟨fd_law_draw, F_law_draw⟩ := c.def_ 0 (d := d_law_draw) rfl
  obtain ⟨fd_law_pick, F_law_pick⟩ := c.def_ 1 (d := d_law_pick) rfl
  obtain ⟨fd_law_term, F_law_term⟩ := c.def_ 2 (d := d_law_term) rfl
  obtain ⟨fd_law_asked, F_law_asked⟩ := c.def_ 3 (d := d_law_asked) rfl
  obtain ⟨fd_law_terms, F_law_terms⟩ := c.def_ 4 (d := d_law_terms) rfl
  obtain ⟨fd_law_scene, F_law_scene⟩ := c.def_ 5 (d := d_law_scene) rfl
  obtain ⟨fd_law_far, F_law_far⟩ := c.def_ 6 (d := d_law_far) rfl
  obtain ⟨fd_law_gone, F_law_gone⟩ := c.def_ 7 (d := d_law_gone) rfl
  obtain ⟨fd_is_list, F_is_list⟩ := c.def_ 8 (d := d_is_list) rfl
  obtain ⟨fd_sorted_words, F_sorted_words⟩ := c.def_ 9 (d := d_sorted_words) rfl
  obtain ⟨fd_is_word, F_is_word⟩ := c.def_ 10 (d := d_is_word) rfl
  obtain ⟨fd_is_kept_word, F_is_kept_word⟩ := c.def_ 11 (d := d_is_kept_word) rfl
  obtain ⟨fd_Lot_init, F_Lot_init⟩ := c.def_ 12 (d := d_Lot_init) rfl
  obtain ⟨fd_law_found, F_law_found⟩ := c.def_ 13 (d := d_law_found) rfl
  obtain ⟨fd_law_links, F_law_links⟩ := c.def_ 14 (d := d_law_links) rfl
  obtain ⟨fd_law_steps, F_law_steps⟩ := c.def_ 15 (d := d_law_steps) rfl
  obtain ⟨fd_law_bent, F_law_bent⟩ := c.def_ 16 (d := d_law_bent) rfl
  obtain ⟨fd_law_is_plan, F_law_is_plan⟩ := c.def_ 17 (d := d_law_is_plan) rfl
  obtain ⟨fd_is_question, F_is_question⟩ := c.def_ 18 (d := d_is_question) rfl
  obtain ⟨fd_want_question, F_want_question⟩ := c.def_ 19 (d := d_want_question) rfl
  obtain ⟨fd_stands_at, F_stands_at⟩ := c.def_ 20 (d := d_stands_at) rfl
  obtain ⟨fd_bridges_by, F_bridges_by⟩ := c.def_ 21 (d := d_bridges_by) rfl
  obtain ⟨fd_bridges_of, F_bridges_of⟩ := c.def_ 22 (d := d_bridges_of) rfl
  obtain ⟨fd_steps_of, F_steps_of⟩ := c.def_ 23 (d := d_steps_of) rfl
  obtain ⟨fd_is_integer, F_is_integer⟩ := c.def_ 24 (d := d_is_integer) rfl
  obtain ⟨fd_is_count, F_is_count⟩ := c.def_ 25 (d := d_is_count) rfl
  obtain ⟨fd_is_step, F_is_step⟩ := c.def_ 26 (d := d_is_step) rfl
  obtain ⟨fd_is_plan_of, F_is_plan_of⟩ := c.def_ 27 (d := d_is_plan_of) rfl
  obtain ⟨fd_is_plan, F_is_plan⟩ := c.def_ 28 (d := d_is_plan) rfl
  obtain ⟨fd_law_judged, F_law_judged⟩ := c.def_ 29 (d := d_law_judged) rfl
  obtain ⟨fd_law_right, F_law_right⟩ := c.def_ 30 (d := d_law_right) rfl
  obtain ⟨fd_law_pot, F_law_pot⟩ := c.def_ 31 (d := d_law_pot) rfl
  obtain ⟨fd_law, F_law⟩ := c.def_ 32 (d := d_law) rfl
  have e := hfa.symm.trans (He.glo_ok X G (c.fact 31 (f := .glo "law") rfl))
  cases e
  have b := FunD.bindsA (ps := ["_law_script"]) F_law fun _ _ _ _ _ _ us hl => match us, hl with | [_], _ => rfl
  refine ⟨fd_law, fun s v => b s [v] rfl, fun base _ _ => ?_⟩
  have c_law_draw := ok_law_draw (P := P) (w := w) (base := base) E  (He.glo_ok X G (c.fact 0 (f := .glo "_law_draw") rfl)) F_law_draw
  have c_law_pick := ok_law_pick (P := P) (w := w) (base := base) E c_law_draw (He.glo_ok X G (c.fact 1 (f := .glo "_law_pick") rfl)) F_law_pick
  have c_law_term := ok_law_term (P := P) (w := w) (base := base) E c_law_draw c_law_pick (He.glo_ok X G (c.fact 2 (f := .glo "_law_term") rfl)) F_law_term
  have c_law_asked := ok_law_asked (P := P) (w := w) (base := base) E c_law_term c_law_draw c_law_pick (He.glo_ok X G (c.fact 3 (f := .glo "_law_asked") rfl)) F_law_asked
  have c_law_terms := ok_law_terms (P := P) (w := w) (base := base) E c_law_term (He.glo_ok X G (c.fact 4 (f := .glo "_law_terms") rfl)) F_law_terms
  have c_law_scene := ok_law_scene (P := P) (w := w) (base := base) E c_law_asked c_law_pick c_law_terms (He.glo_ok X G (c.fact 5 (f := .glo "_law_scene") rfl)) F_law_scene
  have c_law_far := ok_law_far (P := P) (w := w) (base := base) E  (He.glo_ok X G (c.fact 6 (f := .glo "_law_far") rfl)) F_law_far
  have c_law_gone := ok_law_gone (P := P) (w := w) (base := base) E c_law_pick c_law_draw c_law_far (He.glo_ok X G (c.fact 7 (f := .glo "_law_gone") rfl)) F_law_gone
  have c_is_list := ok_is_list (P := P) (w := w) (base := base) E  (He.glo_ok X G (c.fact 8 (f := .glo "is_list") rfl)) F_is_list
  have c_sorted_words := ok_sorted_words (P := P) (w := w) (base := base) E  (He.glo_ok X G (c.fact 9 (f := .glo "sorted_words") rfl)) F_sorted_words
  have c_is_word := ok_is_word (P := P) (w := w) (base := base) E  (He.glo_ok X G (c.fact 10 (f := .glo "is_word") rfl)) F_is_word
  have c_is_kept_word := ok_is_kept_word (P := P) (w := w) (base := base) E c_is_word (He.glo_ok X G (c.fact 11 (f := .glo "is_kept_word") rfl)) F_is_kept_word
  obtain ⟨ds_Lot_init, v_Lot_init, b_Lot_init⟩ := FunD.binds1 (ps := ["self", "words"]) F_Lot_init 2 1 (by simp [He.DefD.dvs, d_Lot_init]) rfl (fun _ _ _ _ _ _ _ us its h1 h2 => match us, its, h1, h2 with | [_, _], [_], _, _ => ⟨_, rfl, rfl⟩)
  cases v_Lot_init
  have M_Lot_init := He.meth_ok (c.fact 52 (f := .meth "Lot" "__init__") rfl)
  have c_Lot_init := ok_Lot_init (P := P) (w := w) (base := base) E c_sorted_words c_is_kept_word c_is_list M_Lot_init.at_ M_Lot_init.fn M_Lot_init.kp b_Lot_init F_Lot_init
  have c_law_found := ok_law_found (P := P) (w := w) (base := base) E  (He.glo_ok X G (c.fact 12 (f := .glo "_law_found") rfl)) F_law_found
  have c_law_links := ok_law_links (P := P) (w := w) (base := base) E c_law_found (He.glo_ok X G (c.fact 13 (f := .glo "_law_links") rfl)) F_law_links
  have c_law_steps := ok_law_steps (P := P) (w := w) (base := base) E c_law_links (He.glo_ok X G (c.fact 14 (f := .glo "_law_steps") rfl)) F_law_steps
  have c_law_bent := ok_law_bent (P := P) (w := w) (base := base) E c_law_pick c_law_draw (He.glo_ok X G (c.fact 15 (f := .glo "_law_bent") rfl)) F_law_bent
  have c_law_is_plan := ok_law_is_plan (P := P) (w := w) (base := base) E  (He.glo_ok X G (c.fact 16 (f := .glo "_law_is_plan") rfl)) F_law_is_plan
  have c_is_question := ok_is_question (P := P) (w := w) (base := base) E c_is_word (He.glo_ok X G (c.fact 17 (f := .glo "is_question") rfl)) F_is_question
  have c_want_question := ok_want_question (P := P) (w := w) (base := base) E c_is_question (He.glo_ok X G (c.fact 18 (f := .glo "want_question") rfl)) F_want_question
  have c_stands_at := ok_stands_at (P := P) (w := w) (base := base) E  (He.glo_ok X G (c.fact 19 (f := .glo "stands_at") rfl)) F_stands_at
  have c_bridges_by := ok_bridges_by (P := P) (w := w) (base := base) E c_stands_at (He.glo_ok X G (c.fact 20 (f := .glo "bridges_by") rfl)) F_bridges_by
  have c_bridges_of := ok_bridges_of (P := P) (w := w) (base := base) E c_bridges_by (He.glo_ok X G (c.fact 21 (f := .glo "bridges_of") rfl)) F_bridges_of
  have c_steps_of := ok_steps_of (P := P) (w := w) (base := base) E c_bridges_of (He.glo_ok X G (c.fact 22 (f := .glo "steps_of") rfl)) F_steps_of
  have c_is_integer := ok_is_integer (P := P) (w := w) (base := base) E  (He.glo_ok X G (c.fact 23 (f := .glo "is_integer") rfl)) F_is_integer
  have c_is_count := ok_is_count (P := P) (w := w) (base := base) E c_is_integer (He.glo_ok X G (c.fact 24 (f := .glo "is_count") rfl)) F_is_count
  have c_is_step := ok_is_step (P := P) (w := w) (base := base) E c_is_count (He.glo_ok X G (c.fact 25 (f := .glo "is_step") rfl)) F_is_step
  have c_is_plan_of := ok_is_plan_of (P := P) (w := w) (base := base) E c_is_step c_steps_of c_is_list (He.glo_ok X G (c.fact 26 (f := .glo "is_plan_of") rfl)) F_is_plan_of
  have c_is_plan := ok_is_plan (P := P) (w := w) (base := base) E c_is_plan_of c_want_question (He.glo_ok X G (c.fact 27 (f := .glo "is_plan") rfl)) F_is_plan
  have c_law_judged := ok_law_judged (P := P) (w := w) (base := base) E c_is_plan c_law_is_plan (He.glo_ok X G (c.fact 28 (f := .glo "_law_judged") rfl)) F_law_judged
  have c_law_right := ok_law_right (P := P) (w := w) (base := base) E c_law_judged c_law_bent c_law_gone c_law_steps c_Lot_init c_law_scene (He.glo_ok X G (c.fact 29 (f := .glo "_law_right") rfl)) F_law_right
  have c_law_pot := ok_law_pot (P := P) (w := w) (base := base) E  (He.glo_ok X G (c.fact 30 (f := .glo "_law_pot") rfl)) F_law_pot
  have c_law := ok_law (P := P) (w := w) (base := base) E c_law_right c_law_pot (He.glo_ok X G (c.fact 31 (f := .glo "law") rfl)) F_law
  obtain ⟨f2, fd2, hm2, F2, ok2⟩ := c_law.ex
  have e1 := (He.glo_ok X G (c.fact 31 (f := .glo "law") rfl)).symm.trans hm2
  cases e1
  have e2 : fd_law = fd2 := funD_fd F_law F2
  subst e2
  exact ok2
end Lw
set_option Elab.async false
set_option linter.all false
set_option maxRecDepth 100000
set_option maxHeartbeats 0

open PySem PySem.W PySem.Calls PyProof.Rows
theorem PySem.Challenge.cw_walksback_k32_plans_judged_holds : PySem.Challenge.rw_walksback_k32_plans_judged.Holds := by
  w_on; o_law
  refine HandSHeadRun.head_any (r := OpenLaw.row PySem.Challenge.rw_walksback_k32_plans_judged) (q := view (OpenLaw.row PySem.Challenge.rw_walksback_k32_plans_judged).prog [51]) (H := Lw.hk) (ob := Lw.ob) (M := 8000) (loose := Lw.loose) (d := HandSHeadRun.topDef (OpenLaw.row PySem.Challenge.rw_walksback_k32_plans_judged).prog 51) (kwd := []) Lw.ob_eq
    (by kernel_rfl) (fun s => by kernel_rfl) Lw.run (by kernel_rfl) (by kernel_rfl) (by kernel_rfl) (by rfl) (by first | assumption | decide +kernel) (by decide +kernel) ⟨rfl, rfl, rfl, rfl, rfl, by decide +kernel⟩ ?hw ?hc
  case hw => w_witness2
  case hc =>
    refine Qy.walk_ofG (l := PySem.Challenge.rw_walksback_k32_plans_judged) (n := 63) (k := 9) (x := "_law_script") (m := Lw.m_law) rfl (by decide) (by kernel_rfl) ⟨rfl, by decide, by decide⟩ ?F Lw.law_true
    intro w mg fa h Y G hmg0
    obtain ⟨K, KX, c, xx⟩ := Y
    have hmg : mg ("law" : PySem.Str) = some (.ref fa) := by
      have e : (HandSHeadRun.topDef (OpenLaw.row PySem.Challenge.rw_walksback_k32_plans_judged).prog 51).name = ("law" : PySem.Str) := by kernel_rfl
      rw [← e]
      exact hmg0
    obtain ⟨fd, hb, hF⟩ := Lw.facts (P := (PySem.Challenge.rw_walksback_k32_plans_judged).prog) (w := w) KX G hmg c xx
    exact ⟨K, fd, KX, hb, hF⟩
