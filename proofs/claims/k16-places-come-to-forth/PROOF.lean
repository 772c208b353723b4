import PyProof.Rows.All
import Wide.All
import OpenK.AllK
import Wide.FinOn
import HandS.ForMost
import HandS.HeadHook1
import HandS.Deep
import HandS.Style
import HandS.IsInst
import HandS.SortInts
import HandS.Walk
import HandS.Defaults
import HandS.HeadEnd
import KE.SortData
import HandS.Text
import HandS.Dict
import HandS.Conv
import HandS.More
import HandS.DictComp
import PyProof.DictUpdate
import HandS.ClsMeth
import HandS.HeadHook2
import KE.KOpsOwn
import PyProof.StrBlock2
import KE.GoesEnum
import HandS.Ends
import HandS.HeadHook4
import HandS.Codes
import HandS.TryOnly
import HandS.SetKeys
import HandS.Iter
import KE.DataMinMax
import HandS.IterVal
import KE.KOwnIter
import PyProof.ListStr
import HandS.Flt
import HandS.Strs
import HandS.SetFor
import HandS.Replace
import HandS.SetIn
import KE.KStateDown
import HandS.Words
import HandS.WordsExc
import HandS.Head0
import HandS.Head1
import HandS.Head2
import HandS.HeadHook3
import PySem.Challenge.RW_walksback_k16_whole_places_come_to_forth
set_option Elab.async false
set_option linter.all false
set_option maxRecDepth 100000
set_option maxHeartbeats 2000000
/-! Trees of data over the hand layer: what is known (stable, in a part S of the heap) and what is owned (lists and dicts that may still change, each reached by one way). -/
namespace Qy
open PySem PySem.Spec PyProof.Rows L2

inductive D where
  | non | bl (b : Bool) | int (i : Int) | str (x : Str)
  | lst (xs : List D) | tup (xs : List D)
  | dK (kvs : List (Key × D)) | dT (kvs : List (List Key × D))
  | ins (C : Str) (fs : List (Str × D))
  | raw (v : V) | scr (ns : List Int) | kt (xs : List D) | dF (kvs : List (Key × D))

inductive OD where
  | st (d : D) | ol (xs : List OD) | oK (kvs : List (Key × OD)) | oT (kvs : List (List Key × OD))
  | oi (C : Str) (fs : List (Str × OD)) | cell (p : Addr) (o : HO)

mutual
def OD.val : OD → D
  | .st d => d
  | .ol xs => .lst (valL xs)
  | .oK kvs => .dK (valK kvs)
  | .oT kvs => .dT (valT kvs)
  | .oi C fs => .ins C (valF fs)
  | .cell p _ => .raw (.ref p)
def valL : List OD → List D
  | [] => []
  | x :: r => x.val :: valL r
def valK : List (Key × OD) → List (Key × D)
  | [] => []
  | (k, x) :: r => (k, x.val) :: valK r
def valT : List (List Key × OD) → List (List Key × D)
  | [] => []
  | (k, x) :: r => (k, x.val) :: valT r
def valF : List (Str × OD) → List (Str × D)
  | [] => []
  | (k, x) :: r => (k, x.val) :: valF r
end
theorem valL_map : ∀ xs : List OD, valL xs = xs.map OD.val
  | [] => rfl
  | x :: r => by simp [valL, valL_map r]
theorem valK_map : ∀ xs : List (Key × OD), valK xs = xs.map fun p => (p.1, p.2.val)
  | [] => rfl
  | (k, x) :: r => by simp [valK, valK_map r]
theorem valT_map : ∀ xs : List (List Key × OD), valT xs = xs.map fun p => (p.1, p.2.val)
  | [] => rfl
  | (k, x) :: r => by simp [valT, valT_map r]

theorem valF_map : ∀ xs : List (Str × OD), valF xs = xs.map fun p => (p.1, p.2.val)
  | [] => rfl
  | (k, x) :: r => by simp [valF, valF_map r]

abbrev Ex (H H' : Hp) : Prop := ∀ a o, H a = some o → H' a = some o
theorem ex_refl (H : Hp) : Ex H H := fun _ _ h => h
theorem ex_trans {H H1 H2 : Hp} (a : Ex H H1) (b : Ex H1 H2) : Ex H H2 := fun x o h => b x o (a x o h)
theorem ex_rd {H H' : Hp} {a : Addr} {u : HO} (e : Ex H H') (h : Rd H a u) : Rd H' a u := by
  rcases h with h | ⟨o, h⟩
  · exact Or.inl (e a _ h)
  · exact Or.inr ⟨o, e a _ h⟩
theorem ex_l {K : PySem.W.Frag} {H H' : Hp} {a : Addr} {xs : List V} (e : Ex H H') (h : SqL K H a xs) : SqL K H' a xs := by
  rcases h with h | h
  · exact Or.inl (ex_rd e h)
  · exact Or.inr h
theorem ex_t {K : PySem.W.Frag} {H H' : Hp} {a : Addr} {xs : List V} (e : Ex H H') (h : SqT K H a xs) : SqT K H' a xs := by
  rcases h with h | h
  · exact Or.inl (ex_rd e h)
  · exact Or.inr h
theorem ex_none {H H' : Hp} {p : Addr} (e : Ex H H') (h : H' p = none) : H p = none := by
  cases h1 : H p with
  | none => rfl
  | some o => rw [e p o h1] at h; cases h
theorem ex_new {H : Hp} {p : Addr} {o : HO} (h : H p = none) : Ex H (upd H p o) := fun a u e => by
  rw [upd_ne (ne_of_none e h)]; exact e
theorem ex_upd {S H : Hp} {p : Addr} {o : HO} (e : Ex S H) (h : S p = none) : Ex S (upd H p o) := fun a u ha => by
  rw [upd_ne (ne_of_none ha h)]; exact e a u ha
theorem ex_both {S H : Hp} {p : Addr} {o : HO} (e : Ex S H) : Ex (upd S p o) (upd H p o) := fun a u ha => by
  by_cases h : a = p
  · subst h; rw [upd_same] at ha ⊢; exact ha
  · rw [upd_ne h] at ha ⊢; exact e a u ha

/-! ### stable data -/
inductive RpI (K : PySem.W.Frag) (S : Hp) : List (V × D) → Prop
  | nil : RpI K S []
  | non {r} : RpI K S r → RpI K S ((.non, .non) :: r)
  | bl {b r} : RpI K S r → RpI K S ((.bl b, .bl b) :: r)
  | int {i r} : RpI K S r → RpI K S ((.int i, .int i) :: r)
  | str {x r} : RpI K S r → RpI K S ((.str x, .str x) :: r)
  | raw {v r} : RpI K S r → RpI K S ((v, .raw v) :: r)
  | scr {a ns r} : SqL K S a (ns.map V.int) → RpI K S r → RpI K S ((.ref a, .scr ns) :: r)
  | lst {a vs ds r} : S a = some (.lst vs) → vs.length = ds.length → RpI K S (vs.zip ds) → RpI K S r → RpI K S ((.ref a, .lst ds) :: r)
  | tup {a vs ds r} : S a = some (.tup vs) → vs.length = ds.length → RpI K S (vs.zip ds) → RpI K S r → RpI K S ((.ref a, .tup ds) :: r)
  | kt {a vs ds r} : SqT K S a vs → vs.length = ds.length → RpI K S (vs.zip ds) → RpI K S r → RpI K S ((.ref a, .kt ds) :: r)
  | dK {a ks kvs r} : S a = some (.dK ks) → ks.map (·.1) = kvs.map (·.1) → RpI K S ((ks.map (·.2)).zip (kvs.map (·.2))) → RpI K S r → RpI K S ((.ref a, .dK kvs) :: r)
  | dT {a ks kvs r} : S a = some (.dT ks) → ks.map (·.1) = kvs.map (·.1) → RpI K S ((ks.map (·.2)).zip (kvs.map (·.2))) → RpI K S r → RpI K S ((.ref a, .dT kvs) :: r)
  | dF {a od ks kvs r} : S a = some (.frz od (.dK ks)) → ks.map (·.1) = kvs.map (·.1) → RpI K S ((ks.map (·.2)).zip (kvs.map (·.2))) → RpI K S r → RpI K S ((.ref a, .dF kvs) :: r)
  | ins {a C dx fs gs r} : S a = some (.ins (He.ga K C) dx fs) → fs.map (·.1) = gs.map (·.1) → RpI K S ((fs.map (·.2)).zip (gs.map (·.2))) → RpI K S r → RpI K S ((.ref a, .ins C gs) :: r)

abbrev Rp (K : PySem.W.Frag) (S : Hp) (v : V) (d : D) : Prop := RpI K S [(v, d)]

section
variable {K : PySem.W.Frag} {S S' H H' : Hp}
theorem RpI.mono (e : Ex S S') {l : List (V × D)} (h : RpI K S l) : RpI K S' l := by
  induction h with
  | nil => exact .nil
  | non _ ih => exact .non ih
  | bl _ ih => exact .bl ih
  | int _ ih => exact .int ih
  | str _ ih => exact .str ih
  | raw _ ih => exact .raw ih
  | scr a _ ih => exact .scr (ex_l e a) ih
  | lst a b _ _ i1 i2 => exact .lst (e _ _ a) b i1 i2
  | tup a b _ _ i1 i2 => exact .tup (e _ _ a) b i1 i2
  | kt a b _ _ i1 i2 => exact .kt (ex_t e a) b i1 i2
  | dK a b _ _ i1 i2 => exact .dK (e _ _ a) b i1 i2
  | dT a b _ _ i1 i2 => exact .dT (e _ _ a) b i1 i2
  | dF a b _ _ i1 i2 => exact .dF (e _ _ a) b i1 i2
  | ins a b _ _ i1 i2 => exact .ins (e _ _ a) b i1 i2
theorem RpI.head {p : V × D} {r : List (V × D)} (h : RpI K S (p :: r)) : Rp K S p.1 p.2 := by
  cases h with
  | non _ => exact .non .nil
  | bl _ => exact .bl .nil
  | int _ => exact .int .nil
  | str _ => exact .str .nil
  | raw _ => exact .raw .nil
  | scr a _ => exact .scr a .nil
  | lst a b c _ => exact .lst a b c .nil
  | tup a b c _ => exact .tup a b c .nil
  | kt a b c _ => exact .kt a b c .nil
  | dK a b c _ => exact .dK a b c .nil
  | dT a b c _ => exact .dT a b c .nil
  | dF a b c _ => exact .dF a b c .nil
  | ins a b c _ => exact .ins a b c .nil
theorem RpI.tail {p : V × D} {r : List (V × D)} (h : RpI K S (p :: r)) : RpI K S r := by
  cases h <;> assumption
theorem RpI.cons {v : V} {d : D} {r : List (V × D)} (h : Rp K S v d) (t : RpI K S r) : RpI K S ((v, d) :: r) := by
  cases h with
  | non _ => exact .non t
  | bl _ => exact .bl t
  | int _ => exact .int t
  | str _ => exact .str t
  | raw _ => exact .raw t
  | scr a _ => exact .scr a t
  | lst a b c _ => exact .lst a b c t
  | tup a b c _ => exact .tup a b c t
  | kt a b c _ => exact .kt a b c t
  | dK a b c _ => exact .dK a b c t
  | dT a b c _ => exact .dT a b c t
  | dF a b c _ => exact .dF a b c t
  | ins a b c _ => exact .ins a b c t
theorem RpI.all : ∀ {l : List (V × D)}, RpI K S l ↔ ∀ p ∈ l, Rp K S p.1 p.2
  | [] => ⟨(fun _ p hp => nomatch hp), (fun _ => RpI.nil)⟩
  | p :: r => ⟨(fun h q hq => by
      rcases List.mem_cons.mp hq with rfl | hq
      · exact h.head
      · exact (RpI.all.mp h.tail) q hq), fun h => .cons (h p List.mem_cons_self) (RpI.all.mpr fun q hq => h q (List.mem_cons_of_mem _ hq))⟩
theorem RpI.append {a b : List (V × D)} (h1 : RpI K S a) (h2 : RpI K S b) : RpI K S (a ++ b) := RpI.all.mpr fun p hp => by
  rcases List.mem_append.mp hp with h | h
  · exact RpI.all.mp h1 p h
  · exact RpI.all.mp h2 p h
theorem RpI.sub {a b : List (V × D)} (h : RpI K S a) (s : ∀ p ∈ b, p ∈ a) : RpI K S b := RpI.all.mpr fun p hp => RpI.all.mp h p (s p hp)
end

/-! ### owned things -/
abbrev It := V × OD
inductive OwI (K : PySem.W.Frag) (S H : Hp) : List It → List Addr → Prop
  | nil : OwI K S H [] []
  | st {v d r fp} : Rp K S v d → OwI K S H r fp → OwI K S H ((v, .st d) :: r) fp
  | ol {p vs os r f1 f2} : H p = some (.lst vs) → vs.length = os.length → OwI K S H (vs.zip os) f1 → OwI K S H r f2 → OwI K S H ((.ref p, .ol os) :: r) (p :: (f1 ++ f2))
  | oK {p ks kvs r f1 f2} : H p = some (.dK ks) → ks.map (·.1) = kvs.map (·.1) → OwI K S H ((ks.map (·.2)).zip (kvs.map (·.2))) f1 → OwI K S H r f2 → OwI K S H ((.ref p, .oK kvs) :: r) (p :: (f1 ++ f2))
  | oT {p ks kvs r f1 f2} : H p = some (.dT ks) → ks.map (·.1) = kvs.map (·.1) → OwI K S H ((ks.map (·.2)).zip (kvs.map (·.2))) f1 → OwI K S H r f2 → OwI K S H ((.ref p, .oT kvs) :: r) (p :: (f1 ++ f2))
  | oi {p C dx vs kvs r f1 f2} : H p = some (.ins (He.ga K C) dx vs) → vs.map (·.1) = kvs.map (·.1) → OwI K S H ((vs.map (·.2)).zip (kvs.map (·.2))) f1 → OwI K S H r f2 → OwI K S H ((.ref p, .oi C kvs) :: r) (p :: (f1 ++ f2))
  | cell {p o r f2} : H p = some o → OwI K S H r f2 → OwI K S H ((.ref p, .cell p o) :: r) (p :: f2)

section
variable {K : PySem.W.Frag} {S S' H H' : Hp}
theorem OwI.append {a b : List It} {f g : List Addr} (h1 : OwI K S H a f) (h2 : OwI K S H b g) : OwI K S H (a ++ b) (f ++ g) := by
  induction h1 with
  | nil => exact h2
  | st r _ ih => exact .st r ih
  | ol e l c _ i1 i2 => simp only [List.cons_append, List.append_assoc]; exact .ol e l c i2
  | oK e l c _ i1 i2 => simp only [List.cons_append, List.append_assoc]; exact .oK e l c i2
  | oT e l c _ i1 i2 => simp only [List.cons_append, List.append_assoc]; exact .oT e l c i2
  | oi e l c _ i1 i2 => simp only [List.cons_append, List.append_assoc]; exact .oi e l c i2
  | cell e _ i2 => exact .cell e i2
theorem OwI.split : ∀ {a b : List It} {fp : List Addr}, OwI K S H (a ++ b) fp → ∃ f g, fp = f ++ g ∧ OwI K S H a f ∧ OwI K S H b g
  | [], b, fp, h => ⟨[], fp, rfl, .nil, h⟩
  | x :: a, b, fp, h => by
    rw [List.cons_append] at h
    cases h with
    | st r t =>
      obtain ⟨f, g, e, h1, h2⟩ := OwI.split t
      exact ⟨f, g, e, .st r h1, h2⟩
    | ol e l c t =>
      obtain ⟨f, g, rfl, h1, h2⟩ := OwI.split t
      exact ⟨_, g, by rw [List.cons_append, List.append_assoc], .ol e l c h1, h2⟩
    | oK e l c t =>
      obtain ⟨f, g, rfl, h1, h2⟩ := OwI.split t
      exact ⟨_, g, by rw [List.cons_append, List.append_assoc], .oK e l c h1, h2⟩
    | oT e l c t =>
      obtain ⟨f, g, rfl, h1, h2⟩ := OwI.split t
      exact ⟨_, g, by rw [List.cons_append, List.append_assoc], .oT e l c h1, h2⟩
    | oi e l c t =>
      obtain ⟨f, g, rfl, h1, h2⟩ := OwI.split t
      exact ⟨_, g, by rw [List.cons_append, List.append_assoc], .oi e l c h1, h2⟩
    | cell e t =>
      obtain ⟨f, g, rfl, h1, h2⟩ := OwI.split t
      exact ⟨_, g, List.cons_append.symm, .cell e h1, h2⟩
theorem OwI.mono {l : List It} {fp : List Addr} (h : OwI K S H l fp) (e : Ex S S') (q : ∀ a ∈ fp, H' a = H a) : OwI K S' H' l fp := by
  induction h with
  | nil => exact .nil
  | st r _ ih => exact .st (r.mono e) (ih q)
  | ol a l _ _ i1 i2 => exact .ol ((q _ List.mem_cons_self).trans a) l (i1 fun x hx => q x (List.mem_cons_of_mem _ (List.mem_append_left _ hx))) (i2 fun x hx => q x (List.mem_cons_of_mem _ (List.mem_append_right _ hx)))
  | oK a l _ _ i1 i2 => exact .oK ((q _ List.mem_cons_self).trans a) l (i1 fun x hx => q x (List.mem_cons_of_mem _ (List.mem_append_left _ hx))) (i2 fun x hx => q x (List.mem_cons_of_mem _ (List.mem_append_right _ hx)))
  | oT a l _ _ i1 i2 => exact .oT ((q _ List.mem_cons_self).trans a) l (i1 fun x hx => q x (List.mem_cons_of_mem _ (List.mem_append_left _ hx))) (i2 fun x hx => q x (List.mem_cons_of_mem _ (List.mem_append_right _ hx)))
  | oi a l _ _ i1 i2 => exact .oi ((q _ List.mem_cons_self).trans a) l (i1 fun x hx => q x (List.mem_cons_of_mem _ (List.mem_append_left _ hx))) (i2 fun x hx => q x (List.mem_cons_of_mem _ (List.mem_append_right _ hx)))
  | cell a _ i2 => exact .cell ((q _ List.mem_cons_self).trans a) (i2 fun x hx => q x (List.mem_cons_of_mem _ hx))
theorem OwI.there {l : List It} {fp : List Addr} (h : OwI K S H l fp) : ∀ a ∈ fp, ∃ o, H a = some o := by
  induction h with
  | nil => intro a ha; cases ha
  | st _ _ ih => exact ih
  | cell a _ i2 =>
    intro x hx
    rcases List.mem_cons.mp hx with rfl | hx
    · exact ⟨_, a⟩
    · exact i2 x hx
  | ol a _ _ _ i1 i2 | oK a _ _ _ i1 i2 | oT a _ _ _ i1 i2 | oi a _ _ _ i1 i2 =>
    intro x hx
    rcases List.mem_cons.mp hx with rfl | hx
    · exact ⟨_, a⟩
    · rcases List.mem_append.mp hx with hx | hx
      · exact i1 x hx
      · exact i2 x hx
theorem OwI.perm {l l' : List It} (p : l.Perm l') : ∀ {fp : List Addr}, OwI K S H l fp → ∃ fp', OwI K S H l' fp' ∧ fp'.Perm fp := by
  induction p with
  | nil => exact fun h => ⟨_, h, .refl _⟩
  | cons x _ ih =>
    intro fp h
    obtain ⟨f, g, rfl, h1, h2⟩ := OwI.split (a := [x]) h
    obtain ⟨g', h3, q⟩ := ih h2
    exact ⟨f ++ g', h1.append h3, q.append_left f⟩
  | swap x y l =>
    intro fp h
    obtain ⟨f, g, rfl, h1, h2⟩ := OwI.split (a := [y]) h
    obtain ⟨f', g', rfl, h3, h4⟩ := OwI.split (a := [x]) h2
    refine ⟨f' ++ (f ++ g'), h3.append (h1.append h4), ?_⟩
    rw [← List.append_assoc, ← List.append_assoc]
    exact List.perm_append_comm.append_right g'
  | trans _ _ i1 i2 =>
    intro fp h
    obtain ⟨f1, h1, p1⟩ := i1 h
    obtain ⟨f2, h2, p2⟩ := i2 h1
    exact ⟨f2, h2, p2.trans p1⟩
def vals (l : List It) : List (V × D) := l.map fun p => (p.1, p.2.val)
theorem vals_zip : ∀ (vs : List V) (os : List OD), vals (vs.zip os) = vs.zip (os.map OD.val)
  | [], _ => rfl
  | _ :: _, [] => rfl
  | v :: vs, o :: os => by
    show (v, o.val) :: vals (vs.zip os) = _
    rw [vals_zip vs os]; rfl
theorem OwI.frozen {l : List It} {fp : List Addr} (h : OwI K S H l fp) : ∀ {S' : Hp}, Ex S S' → (∀ a ∈ fp, S' a = H a) → RpI K S' (vals l) := by
  induction h with
  | nil => exact fun _ _ => .nil
  | st r _ ih => exact fun e q => .cons (r.mono e) (ih e q)
  | ol a l _ _ i1 i2 =>
    intro S' e q
    have h1 := i1 e fun x hx => q x (List.mem_cons_of_mem _ (List.mem_append_left _ hx))
    have h2 := i2 e fun x hx => q x (List.mem_cons_of_mem _ (List.mem_append_right _ hx))
    rw [vals_zip] at h1
    refine RpI.lst (ds := valL _) ((q _ List.mem_cons_self).trans a) ?_ ?_ h2
    · rw [valL_map]; simpa using l
    · rw [valL_map]; exact h1
  | oK a l _ _ i1 i2 =>
    intro S' e q
    have h1 := i1 e fun x hx => q x (List.mem_cons_of_mem _ (List.mem_append_left _ hx))
    have h2 := i2 e fun x hx => q x (List.mem_cons_of_mem _ (List.mem_append_right _ hx))
    rw [vals_zip] at h1
    refine RpI.dK (kvs := valK _) ((q _ List.mem_cons_self).trans a) ?_ ?_ h2
    · rw [valK_map, l]; simp
    · rw [valK_map]; rw [List.map_map] at h1 ⊢; exact h1
  | oT a l _ _ i1 i2 =>
    intro S' e q
    have h1 := i1 e fun x hx => q x (List.mem_cons_of_mem _ (List.mem_append_left _ hx))
    have h2 := i2 e fun x hx => q x (List.mem_cons_of_mem _ (List.mem_append_right _ hx))
    rw [vals_zip] at h1
    refine RpI.dT (kvs := valT _) ((q _ List.mem_cons_self).trans a) ?_ ?_ h2
    · rw [valT_map, l]; simp
    · rw [valT_map]; rw [List.map_map] at h1 ⊢; exact h1
  | oi a l _ _ i1 i2 =>
    intro S' e q
    have h1 := i1 e fun x hx => q x (List.mem_cons_of_mem _ (List.mem_append_left _ hx))
    have h2 := i2 e fun x hx => q x (List.mem_cons_of_mem _ (List.mem_append_right _ hx))
    rw [vals_zip] at h1
    refine RpI.ins (gs := valF _) ((q _ List.mem_cons_self).trans a) ?_ ?_ h2
    · rw [valF_map, l]; simp
    · rw [valF_map]; rw [List.map_map] at h1 ⊢; exact h1
  | cell a _ i2 => exact fun e q => .raw (i2 e fun x hx => q x (List.mem_cons_of_mem _ hx))

/-- the items are owned, apart from one another, from what is stable, and from the addresses ex -/
def Own (K : PySem.W.Frag) (S H : Hp) (ex : List Addr) (l : List It) : Prop :=
  Ex S H ∧ ∃ fp, OwI K S H l fp ∧ fp.Nodup ∧ (∀ a ∈ fp, S a = none) ∧ ∀ p ∈ ex, p ∉ fp ∧ S p = none
variable {ex : List Addr} {l l' r : List It}
theorem Own.le (h : Own K S H ex l) : Ex S H := h.1
theorem Own.perm (h : Own K S H ex l) (p : l.Perm l') : Own K S H ex l' := by
  obtain ⟨e, fp, o, nd, sn, x⟩ := h
  obtain ⟨fp', o', q⟩ := o.perm p
  exact ⟨e, fp', o', q.nodup_iff.mpr nd, fun a ha => sn a (q.mem_iff.mp ha), fun a ha => ⟨fun z => (x a ha).1 (q.mem_iff.mp z), (x a ha).2⟩⟩
theorem Own.drop (h : Own K S H ex (r ++ l)) : Own K S H ex l := by
  obtain ⟨e, fp, o, nd, sn, x⟩ := h
  obtain ⟨f, g, rfl, _, h2⟩ := o.split
  exact ⟨e, g, h2, (List.nodup_append.mp nd).2.1, fun a ha => sn a (List.mem_append_right _ ha), fun a ha => ⟨fun z => (x a ha).1 (List.mem_append_right _ z), (x a ha).2⟩⟩
theorem Own.tl {x : It} (h : Own K S H ex (x :: l)) : Own K S H ex l := Own.drop (r := [x]) h
theorem Own.sub (h : Own K S H ex l) (p : ∃ r, l.Perm (r ++ l')) : Own K S H ex l' := by
  obtain ⟨r, q⟩ := p
  exact (h.perm q).drop
theorem Own.push {v : V} {d : D} (h : Own K S H ex l) (r : Rp K S v d) : Own K S H ex ((v, .st d) :: l) := by
  obtain ⟨e, fp, o, z⟩ := h
  exact ⟨e, fp, .st r o, z⟩
theorem Own.known {v : V} {d : D} (h : Own K S H ex ((v, .st d) :: l)) : Rp K S v d := by
  obtain ⟨_, _, o, _⟩ := h
  cases o with
  | st r _ => exact r
theorem Own.alloc {p : Addr} {o : HO} (h : Own K S H ex l) (n : H p = none) : Own K S (upd H p o) ex l := by
  obtain ⟨e, fp, w, z⟩ := h
  refine ⟨ex_upd e (ex_none e n), fp, w.mono (ex_refl S) fun a ha => upd_ne ?_, z⟩
  obtain ⟨u, hu⟩ := w.there a ha
  exact ne_of_none hu n
/-- a heap that has more -/
theorem Own.more {H' : Hp} (h : Own K S H ex l) (n : Ex H H') : Own K S H' ex l := by
  obtain ⟨e, fp, w, z⟩ := h
  refine ⟨ex_trans e n, fp, w.mono (ex_refl S) fun a ha => ?_, z⟩
  obtain ⟨u, hu⟩ := w.there a ha
  rw [hu]; exact n a u hu
/-- a stable object more -/
theorem Own.stable {p : Addr} {o : HO} (h : Own K S H [] l) (n : H p = none) : Own K (upd S p o) (upd H p o) [] l := by
  obtain ⟨e, fp, w, nd, sn, _⟩ := h
  have ne : ∀ a ∈ fp, a ≠ p := fun a ha => by
    obtain ⟨u, hu⟩ := w.there a ha
    exact ne_of_none hu n
  exact ⟨ex_both e, fp, w.mono (ex_new (ex_none e n)) fun a ha => upd_ne (ne a ha), nd, fun a ha => by rw [upd_ne (ne a ha)]; exact sn a ha, fun _ z => nomatch z⟩
theorem Own.freeze (h : Own K S H ex (r ++ l)) : ∃ S', Ex S S' ∧ RpI K S' (vals r) ∧ Own K S' H ex l := by
  obtain ⟨e, fp, w, nd, sn, x⟩ := h
  obtain ⟨f, g, rfl, h1, h2⟩ := w.split
  have nd2 := List.nodup_append.mp nd
  refine ⟨fun a => if a ∈ f then H a else S a, fun a o q => ?_, h1.frozen (fun a o q => ?_) (fun a ha => if_pos ha), fun a o q => ?_, g, h2.mono (fun a o q => ?_) (fun _ _ => rfl), nd2.2.1, fun a ha => ?_, fun p hp => ⟨fun z => (x p hp).1 (List.mem_append_right _ z), ?_⟩⟩
  · by_cases z : a ∈ f
    · rw [sn a (List.mem_append_left _ z)] at q; cases q
    · simp only [if_neg z]; exact q
  · by_cases z : a ∈ f
    · rw [sn a (List.mem_append_left _ z)] at q; cases q
    · simp only [if_neg z]; exact q
  · by_cases z : a ∈ f
    · simp only [if_pos z] at q; exact q
    · simp only [if_neg z] at q; exact e a o q
  · by_cases z : a ∈ f
    · rw [sn a (List.mem_append_left _ z)] at q; cases q
    · simp only [if_neg z]; exact q
  · have z : a ∉ f := fun z => nd2.2.2 a z a ha rfl
    simp only [if_neg z]; exact sn a (List.mem_append_right _ ha)
  · have z : p ∉ f := fun z => (x p hp).1 (List.mem_append_left _ z)
    simp only [if_neg z]; exact (x p hp).2
/-- one item frozen -/
theorem Own.freeze1 {v : V} {o : OD} (h : Own K S H ex ((v, o) :: l)) : ∃ S', Ex S S' ∧ Own K S' H ex ((v, .st o.val) :: l) := by
  obtain ⟨S', e, q, w⟩ := Own.freeze (r := [(v, o)]) h
  exact ⟨S', e, w.push q⟩
/-- a list is opened: its items stand by themselves -/
theorem Own.open_ {p : Addr} {os : List OD} (h : Own K S H ex ((.ref p, .ol os) :: l)) : ∃ vs, H p = some (.lst vs) ∧ vs.length = os.length ∧ p ∉ ex ∧ Own K S H (p :: ex) (vs.zip os ++ l) := by
  obtain ⟨e, fp, w, nd, sn, x⟩ := h
  cases w with
  | ol a len c t =>
    obtain ⟨n1, n2⟩ := List.nodup_cons.mp nd
    refine ⟨_, a, len, fun z => (x p z).1 List.mem_cons_self, e, _, c.append t, n2, fun a ha => sn a (List.mem_cons_of_mem _ ha), fun q hq => ?_⟩
    rcases List.mem_cons.mp hq with rfl | hq
    · exact ⟨n1, sn _ List.mem_cons_self⟩
    · exact ⟨fun z => (x q hq).1 (List.mem_cons_of_mem _ z), (x q hq).2⟩
/-- .. and closed, with other items -/
theorem Own.close {p : Addr} {us : List V} {os : List OD} (h : Own K S H (p :: ex) (us.zip os ++ l)) (len : us.length = os.length) (hp : p ∉ ex) : Own K S (upd H p (.lst us)) ex ((.ref p, .ol os) :: l) := by
  obtain ⟨e, fp, w, nd, sn, x⟩ := h
  obtain ⟨np, sp⟩ := x p List.mem_cons_self
  have w' : OwI K S (upd H p (.lst us)) (us.zip os ++ l) fp := w.mono (ex_refl S) fun a ha => upd_ne fun z => np (z ▸ ha)
  obtain ⟨f, g, rfl, h1, h2⟩ := w'.split
  refine ⟨ex_upd e sp, p :: (f ++ g), .ol upd_same len h1 h2, List.nodup_cons.mpr ⟨np, nd⟩, fun a ha => ?_, fun q hq => ?_⟩
  · rcases List.mem_cons.mp ha with rfl | ha
    · exact sp
    · exact sn a ha
  · obtain ⟨z1, z2⟩ := x q (List.mem_cons_of_mem _ hq)
    refine ⟨fun z => ?_, z2⟩
    rcases List.mem_cons.mp z with rfl | z
    · exact hp hq
    · exact z1 z
end
end Qy
set_option Elab.async false
set_option linter.all false
set_option maxRecDepth 100000
set_option maxHeartbeats 2000000
namespace Qy
open PySem PySem.Spec PyProof.Rows L2

/-! ### the slots -/
abbrev Rho := List (Option OD)
def its : Rho → L2.St → List It
  | some o :: ρ, some v :: σ => (v, o) :: its ρ σ
  | some _ :: ρ, none :: σ => its ρ σ
  | none :: ρ, _ :: σ => its ρ σ
  | [], _ => []
  | _ :: _, [] => []
theorem its_clr : ∀ (ρ : Rho) (σ : L2.St) (i : Nat) (x : Option V), its (ρ.set i none) (σ.set i x) = its (ρ.set i none) σ
  | [], _, _, _ => by simp [its]
  | a :: ρ, [], i, x => by simp
  | a :: ρ, b :: σ, 0, x => by simp [its]
  | none :: ρ, b :: σ, i + 1, x => by simpa [its] using its_clr ρ σ i x
  | some o :: ρ, none :: σ, i + 1, x => by simpa [its] using its_clr ρ σ i x
  | some o :: ρ, some v :: σ, i + 1, x => by simpa [its] using its_clr ρ σ i x
theorem its_put : ∀ (ρ : Rho) (σ : L2.St) (i : Nat) (v : V) (o : OD), i < ρ.length → σ[i]? = some (some v) → (its (ρ.set i (some o)) σ).Perm ((v, o) :: its (ρ.set i none) σ)
  | [], _, i, _, _, h, _ => absurd h (Nat.not_lt_zero i)
  | a :: ρ, [], i, v, o, _, h => by simp at h
  | a :: ρ, b :: σ, 0, v, o, _, h => by
    have e : b = some v := by simpa using h
    subst e
    simp [its]
  | none :: ρ, b :: σ, i + 1, v, o, hl, h => by
    simpa [its] using its_put ρ σ i v o (by simpa using hl) (by simpa using h)
  | some u :: ρ, none :: σ, i + 1, v, o, hl, h => by
    simpa [its] using its_put ρ σ i v o (by simpa using hl) (by simpa using h)
  | some u :: ρ, some w :: σ, i + 1, v, o, hl, h => by
    simp only [List.set_cons_succ, its]
    exact ((its_put ρ σ i v o (by simpa using hl) (by simpa using h)).cons _).trans (.swap _ _ _)
theorem set_self {α : Type} : ∀ (l : List α) (i : Nat) (a : α), l[i]? = some a → l.set i a = l
  | [], i, a, h => by simp at h
  | b :: l, 0, a, h => by simp at h; simp [h]
  | b :: l, i + 1, a, h => by simp at h; simp [set_self l i a h]
theorem its_take (ρ : Rho) (σ : L2.St) (i : Nat) (v : V) (o : OD) (h1 : ρ[i]? = some (some o)) (h2 : σ[i]? = some (some v)) : (its ρ σ).Perm ((v, o) :: its (ρ.set i none) σ) := by
  have h := its_put ρ σ i v o (List.getElem?_eq_some_iff.mp h1).1 h2
  rw [set_self ρ i _ h1] at h
  exact h
theorem its_sub : ∀ (ρ : Rho) (σ : L2.St) (i : Nat), ∃ r, (its ρ σ).Perm (r ++ its (ρ.set i none) σ)
  | [], σ, i => ⟨[], by simp [its]⟩
  | a :: ρ, [], i => ⟨[], by cases i <;> cases a <;> simp [its]⟩
  | none :: ρ, b :: σ, 0 => ⟨[], by simp [its]⟩
  | some o :: ρ, none :: σ, 0 => ⟨[], by simp [its]⟩
  | some o :: ρ, some v :: σ, 0 => ⟨[(v, o)], by simp [its]⟩
  | none :: ρ, b :: σ, i + 1 => by obtain ⟨r, h⟩ := its_sub ρ σ i; exact ⟨r, by simpa [its] using h⟩
  | some o :: ρ, none :: σ, i + 1 => by obtain ⟨r, h⟩ := its_sub ρ σ i; exact ⟨r, by simpa [its] using h⟩
  | some o :: ρ, some v :: σ, i + 1 => by
    obtain ⟨r, h⟩ := its_sub ρ σ i
    refine ⟨r, ?_⟩
    simp only [List.set_cons_succ, its]
    exact (h.cons _).trans List.perm_middle.symm

structure Sat (K : PySem.W.Frag) (pin : List (Option V)) (S H : Hp) (T : List It) (ρ : Rho) (σ : L2.St) (F : List It) : Prop where
  own : Own K S H [] (T ++ (its ρ σ ++ F))
  wf : ∀ (i : Nat) o, ρ[i]? = some (some o) → ∃ v, σ[i]? = some (some v)
  len : ρ.length = σ.length
  pin : ∀ (i : Nat) v, pin[i]? = some (some v) → σ[i]? = some (some v)

section
variable {K : PySem.W.Frag} {pin : List (Option V)} {S S' H H' : Hp} {T T' F F' : List It} {ρ ρ' : Rho} {σ : L2.St} {v : V} {o : OD} {d : D}
theorem Sat.with (h : Sat K pin S H T ρ σ F) (w : Own K S' H' [] (T' ++ (its ρ σ ++ F'))) : Sat K pin S' H' T' ρ σ F' := ⟨w, h.wf, h.len, h.pin⟩
theorem Sat.tl {x : It} (h : Sat K pin S H (x :: T) ρ σ F) : Sat K pin S H T ρ σ F := h.with h.own.tl
theorem Sat.push (h : Sat K pin S H T ρ σ F) (r : Rp K S v d) : Sat K pin S H ((v, .st d) :: T) ρ σ F := h.with (h.own.push r)
theorem Sat.known (h : Sat K pin S H ((v, .st d) :: T) ρ σ F) : Rp K S v d := h.own.known
theorem Sat.le (h : Sat K pin S H T ρ σ F) : Ex S H := h.own.le
theorem Sat.frz (h : Sat K pin S H ((v, o) :: T) ρ σ F) : ∃ S', Ex S S' ∧ Sat K pin S' H ((v, .st o.val) :: T) ρ σ F := by
  obtain ⟨S', e, w⟩ := h.own.freeze1
  exact ⟨S', e, h.with w⟩
theorem perm_mid {a : It} {T R F : List It} {R' : List It} (p : R.Perm (a :: R')) : (T ++ (R ++ F)).Perm (a :: (T ++ (R' ++ F))) :=
  ((p.append_right F).append_left T).trans List.perm_middle
/-- a slot's thing is put back -/
theorem Sat.back {i : Nat} (h : Sat K pin S H ((v, o) :: T) ρ σ F) (hv : σ[i]? = some (some v)) : Sat K pin S H T (ρ.set i (some o)) σ F := by
  have hi : i < ρ.length := by rw [h.len]; exact (List.getElem?_eq_some_iff.mp hv).1
  refine ⟨?_, fun j u hj => ?_, by simpa using h.len, h.pin⟩
  · obtain ⟨r, q⟩ := its_sub ρ σ i
    refine h.own.sub ⟨r, ?_⟩
    refine .trans ?_ ((perm_mid (T := T) (F := F) (its_put ρ σ i v o hi hv)).symm.append_left r)
    refine .trans (((q.append_right F).append_left T).cons (v, o)) ?_
    rw [List.append_assoc]
    refine .trans ?_ List.perm_middle.symm
    refine .cons _ ?_
    rw [← List.append_assoc, ← List.append_assoc r T]
    exact List.perm_append_comm.append_right _
  · by_cases e : j = i
    · subst e; exact ⟨v, hv⟩
    · rw [List.getElem?_set_ne (Ne.symm e)] at hj; exact h.wf j u hj
/-- a slot's thing is taken out -/
theorem Sat.take {i : Nat} (h : Sat K pin S H T ρ σ F) (ho : ρ[i]? = some (some o)) : ∃ v, σ[i]? = some (some v) ∧ Sat K pin S H ((v, o) :: T) (ρ.set i none) σ F := by
  obtain ⟨v, hv⟩ := h.wf i o ho
  refine ⟨v, hv, h.own.perm (perm_mid (its_take ρ σ i v o ho hv)), fun j u hj => ?_, by simpa using h.len, h.pin⟩
  by_cases e : j = i
  · subst e
    rw [List.getElem?_set_self (List.getElem?_eq_some_iff.mp ho).1] at hj; cases hj
  · rw [List.getElem?_set_ne (Ne.symm e)] at hj; exact h.wf j u hj
/-- what stands in a slot is known -/
theorem Sat.get {i : Nat} (h : Sat K pin S H T ρ σ F) (ho : ρ[i]? = some (some (.st d))) : ∃ v, σ[i]? = some (some v) ∧ Rp K S v d := by
  obtain ⟨v, hv, w⟩ := h.take ho
  exact ⟨v, hv, w.known⟩
/-- a store -/
theorem Sat.asg {i : Nat} (h : Sat K pin S H ((v, o) :: T) ρ σ F) (hi : i < ρ.length) (hp : pin[i]? = none ∨ pin[i]? = some none) : Sat K pin S H T (ρ.set i (some o)) (σ.set i (some v)) F := by
  have hi' : i < σ.length := by rw [← h.len]; exact hi
  have hv : (σ.set i (some v))[i]? = some (some v) := List.getElem?_set_self hi'
  refine ⟨?_, fun j u hj => ?_, by simpa using h.len, fun j u hj => ?_⟩
  · have h1 : Own K S H [] ((v, o) :: (T ++ (its (ρ.set i none) σ ++ F))) := by
      obtain ⟨r, q⟩ := its_sub ρ σ i
      refine h.own.sub ⟨r, ?_⟩
      refine .trans (((q.append_right F).append_left T).cons (v, o)) ?_
      rw [List.append_assoc]
      refine .trans ?_ List.perm_middle.symm
      refine .cons _ ?_
      rw [← List.append_assoc, ← List.append_assoc r T]
      exact List.perm_append_comm.append_right _
    rw [← its_clr ρ σ i (some v)] at h1
    exact h1.perm (perm_mid (its_put ρ (σ.set i (some v)) i v o hi hv)).symm
  · by_cases e : j = i
    · subst e; exact ⟨v, hv⟩
    · rw [List.getElem?_set_ne (Ne.symm e)] at hj ⊢; exact h.wf j u hj
  · by_cases e : j = i
    · subst e
      rcases hp with z | z
      · rw [z] at hj; cases hj
      · rw [z] at hj; cases hj
    · rw [List.getElem?_set_ne (Ne.symm e)]; exact h.pin j u hj
/-- forgetting a slot -/
theorem Sat.forget {i : Nat} (h : Sat K pin S H T ρ σ F) : Sat K pin S H T (ρ.set i none) σ F := by
  refine ⟨?_, fun j u hj => ?_, by simpa using h.len, h.pin⟩
  · obtain ⟨r, q⟩ := its_sub ρ σ i
    refine h.own.sub ⟨r, ((q.append_right F).append_left T).trans ?_⟩
    rw [List.append_assoc, ← List.append_assoc T, ← List.append_assoc r]
    exact List.perm_append_comm.append_right _
  · by_cases e : j = i
    · subst e
      by_cases hl : j < ρ.length
      · rw [List.getElem?_set_self hl] at hj; cases hj
      · rw [List.getElem?_eq_none (by simpa using hl)] at hj; cases hj
    · rw [List.getElem?_set_ne (Ne.symm e)] at hj; exact h.wf j u hj
end

/-! ### what is read off a reading -/
abbrev Fe := Rho → Option (OD × Rho)
abbrev Ft := Rho → Option (Bool × Rho)
abbrev Fa := Rho → Option (List OD × Rho)
/-- an operand: what it gives, and how it is put back -/
abbrev Fo := Fe × (OD → Rho → Rho)
inductive Out where
  | nx (ρ : Rho) | rt (o : OD) (ρ : Rho) | bk (ρ : Rho) | ct (ρ : Rho)
abbrev Fs := Rho → Option Out

def RE (K : PySem.W.Frag) (pin : List (Option V)) (t : TE) (f : Fe) : Prop := ∀ S H T ρ σ F Q od ρ', Sat K pin S H T ρ σ F → f ρ = some (od, ρ') →
  (∀ v S' H', Ex S S' → Sat K pin S' H' ((v, od) :: T) ρ' σ F → Q v H') → t σ H Q
def RT (K : PySem.W.Frag) (pin : List (Option V)) (t : TT) (f : Ft) : Prop := ∀ S H T ρ σ F Q b ρ', Sat K pin S H T ρ σ F → f ρ = some (b, ρ') →
  (∀ S' H', Ex S S' → Sat K pin S' H' T ρ' σ F → Q b H') → t σ H Q
def RA (K : PySem.W.Frag) (pin : List (Option V)) (t : TA) (f : Fa) : Prop := ∀ S H T ρ σ F Q ods ρ', Sat K pin S H T ρ σ F → f ρ = some (ods, ρ') →
  (∀ vs S' H', Ex S S' → vs.length = ods.length → Sat K pin S' H' (vs.zip ods ++ T) ρ' σ F → Q vs H') → t σ H Q
def Rst (K : PySem.W.Frag) (pin : List (Option V)) (σ : L2.St) (F : List It) (v : V) (rst : OD → Rho → Rho) : Prop :=
  ∀ S H T ρ o, Sat K pin S H ((v, o) :: T) ρ σ F → Sat K pin S H T (rst o ρ) σ F
def RO (K : PySem.W.Frag) (pin : List (Option V)) (t : TE) (a : Fo) : Prop := ∀ S H T ρ σ F Q od ρ', Sat K pin S H T ρ σ F → a.1 ρ = some (od, ρ') →
  (∀ v S' H', Ex S S' → Sat K pin S' H' ((v, od) :: T) ρ' σ F → Rst K pin σ F v a.2 → Q v H') → t σ H Q
def OutOk (K : PySem.W.Frag) (pin : List (Option V)) (S : Hp) (F : List It) (E : Ends) : Out → Prop
  | .nx ρ => ∀ S' H' σ', Ex S S' → Sat K pin S' H' [] ρ σ' F → E.nx σ' H'
  | .bk ρ => ∀ S' H' σ', Ex S S' → Sat K pin S' H' [] ρ σ' F → E.bk σ' H'
  | .ct ρ => ∀ S' H' σ', Ex S S' → Sat K pin S' H' [] ρ σ' F → E.ct σ' H'
  | .rt o ρ => ∀ v S' H' σ', Ex S S' → Sat K pin S' H' [(v, o)] ρ σ' F → E.rt v H'
def RS (K : PySem.W.Frag) (pin : List (Option V)) (t : TS) (f : Fs) : Prop := ∀ S H ρ σ F E o, Sat K pin S H [] ρ σ F → f ρ = some o → OutOk K pin S F E o → t E σ H

theorem OutOk.le {K : PySem.W.Frag} {pin : List (Option V)} {S S1 : Hp} {F : List It} {E : Ends} {o : Out} (h : OutOk K pin S F E o) (e : Ex S S1) : OutOk K pin S1 F E o := by
  cases o with
  | nx ρ => exact fun S' H' σ' e' w => h S' H' σ' (ex_trans e e') w
  | bk ρ => exact fun S' H' σ' e' w => h S' H' σ' (ex_trans e e') w
  | ct ρ => exact fun S' H' σ' e' w => h S' H' σ' (ex_trans e e') w
  | rt u ρ => exact fun v S' H' σ' e' w => h v S' H' σ' (ex_trans e e') w

structure SE (X : Cx) (pin : List (Option V)) (e : Expr) (t : TE) (f : Fe) : Prop where
  pe : PE X e t
  rd : RE X.K pin t f
structure SO (X : Cx) (pin : List (Option V)) (e : Expr) (t : TE) (a : Fo) : Prop where
  pe : PE X e t
  rd : RO X.K pin t a
structure STs (X : Cx) (pin : List (Option V)) (e : Expr) (t : TT) (f : Ft) : Prop where
  pe : PT X e t
  rd : RT X.K pin t f
structure SA (X : Cx) (pin : List (Option V)) (es : List Expr) (t : TA) (f : Fa) : Prop where
  pe : PA X es t
  rd : RA X.K pin t f
structure SS (X : Cx) (pin : List (Option V)) (s : Stmt) (t : TS) (f : Fs) : Prop where
  pe : PS X s t
  rd : RS X.K pin t f
structure SB (X : Cx) (pin : List (Option V)) (s : List Stmt) (t : TS) (f : Fs) : Prop where
  pe : PSs X s t
  rd : RS X.K pin t f

/-! ### operands -/
def fDrop : OD → Rho → Rho := fun _ ρ => ρ
def fBack (i : Nat) : OD → Rho → Rho := fun o ρ => ρ.set i (some o)
/-- a slot's thing as an operand: what is stable stays there, what is owned is lent -/
def fPeek (i : Nat) : Fe := fun ρ => match ρ[i]? with
  | some (some (.st d)) => some (.st d, ρ)
  | some (some o) => some (o, ρ.set i none)
  | _ => none
abbrev fP (i : Nat) : Fo := (fPeek i, fBack i)
abbrev fE (f : Fe) : Fo := (f, fDrop)
section
variable {X : Cx} {pin : List (Option V)} {K : PySem.W.Frag} {e : Expr} {t : TE} {f : Fe}
theorem RE.o (h : RE K pin t f) : RO K pin t (fE f) := fun S H T ρ σ F Q od ρ' w e k =>
  h S H T ρ σ F Q od ρ' w e fun v S' H' x w' => k v S' H' x w' fun _ _ _ _ _ z => z.tl
theorem SE.o (h : SE X pin e t f) : SO X pin e t (fE f) := ⟨h.pe, h.rd.o⟩
theorem rst_back {σ : L2.St} {F : List It} {v : V} {i : Nat} (hv : σ[i]? = some (some v)) : Rst K pin σ F v (fBack i) := fun _ _ _ _ _ w => w.back hv
theorem ro_var (i : Nat) : RO K pin (tVar i) (fP i) := by
  intro S H T ρ σ F Q od ρ' w e k
  have e' : fPeek i ρ = some (od, ρ') := e
  unfold fPeek at e'
  split at e'
  · rename_i d hd
    cases e'
    obtain ⟨v, hv, r⟩ := w.get hd
    exact ⟨v, hv, k v S H (ex_refl S) (w.push r) (rst_back hv)⟩
  · rename_i o hn ho
    cases e'
    obtain ⟨v, hv, w'⟩ := w.take ho
    exact ⟨v, hv, k v S H (ex_refl S) w' (rst_back hv)⟩
  · cases e'
theorem so_var (i : Nat) {x : Str} {pos : Pos} (hN : X.N[i]? = some x := by rfl) (hv : Vis X.env.scope x := by first | exact Or.inl rfl | exact Or.inr (Or.inl rfl) | exact Or.inr (Or.inr rfl)) (hd : (x == ("__debug__" : Str)) = false := by decide)
    (hcd : (x == ("__classdict__" : Str)) = false := by decide) : SO X pin (.Name x pos) (tVar i) (fP i) := ⟨pe_var hN hv hd hcd, ro_var i⟩
/-- an operand, frozen, as a value -/
def fFz (a : Fo) : Fe := fun ρ => (a.1 ρ).map fun p => (.st p.1.val, a.2 (.st p.1.val) p.2)
theorem RO.fz {a : Fo} (h : RO K pin t a) : RE K pin t (fFz a) := by
  intro S H T ρ σ F Q od ρ' w e k
  unfold fFz at e
  cases q : a.1 ρ with
  | none => rw [q] at e; cases e
  | some p =>
    obtain ⟨o, ρ1⟩ := p
    rw [q] at e; cases e
    refine h S H T ρ σ F Q o ρ1 w q fun v S' H' x w' rs => ?_
    obtain ⟨S2, e2, w2⟩ := w'.frz
    have w3 := rs S2 H' _ ρ1 _ (w2.push w2.known)
    exact k v S2 H' (ex_trans x e2) w3
theorem SO.fz {a : Fo} (h : SO X pin e t a) : SE X pin e t (fFz a) := ⟨h.pe, h.rd.fz⟩
/-- a slot's thing, moved out -/
def fMov (i : Nat) : Fe := fun ρ => match ρ[i]? with
  | some (some o) => some (o, ρ.set i none)
  | _ => none
theorem re_mov (i : Nat) : RE K pin (tVar i) (fMov i) := by
  intro S H T ρ σ F Q od ρ' w e k
  unfold fMov at e
  split at e
  · rename_i o ho
    cases e
    obtain ⟨v, hv, w'⟩ := w.take ho
    exact ⟨v, hv, k v S H (ex_refl S) w'⟩
  · cases e
theorem se_mov (i : Nat) {x : Str} {pos : Pos} (hN : X.N[i]? = some x := by rfl) (hv : Vis X.env.scope x := by first | exact Or.inl rfl | exact Or.inr (Or.inl rfl) | exact Or.inr (Or.inr rfl)) (hd : (x == ("__debug__" : Str)) = false := by decide)
    (hcd : (x == ("__classdict__" : Str)) = false := by decide) : SE X pin (.Name x pos) (tVar i) (fMov i) := ⟨pe_var hN hv hd hcd, re_mov i⟩

/-! ### constants -/
def fC (d : D) : Fe := fun ρ => some (.st d, ρ)
theorem re_c {v : V} {d : D} (h : ∀ S, Rp K S v d) : RE K pin (tC v) (fC d) := by
  intro S H T ρ σ F Q od ρ' w e k
  cases e
  exact k v S H (ex_refl S) (w.push (h S))
theorem se_int {i j pos} : SE X pin (.Constant (.int i) j pos) (tC (.int i)) (fC (.int i)) := ⟨pe_int, re_c fun _ => .int .nil⟩
theorem se_str {x j pos} : SE X pin (.Constant (.str x) j pos) (tC (.str x)) (fC (.str x)) := ⟨pe_str, re_c fun _ => .str .nil⟩
theorem se_bl {b j pos} : SE X pin (.Constant (.bool b) j pos) (tC (.bl b)) (fC (.bl b)) := ⟨pe_bl, re_c fun _ => .bl .nil⟩
theorem se_non {j pos} : SE X pin (.Constant .none j pos) (tC .non) (fC .non) := ⟨pe_non, re_c fun _ => .non .nil⟩
/-- a module's name: d tells what it stands for, wherever one stands -/
theorem se_glob {x : Str} {v : V} {u : Value} {d : D} {pos : Pos} (hg : Gl X x) (hm : X.mg x = some u) (r : RelV v u) (h : ∀ S, Rp X.K S v d) (hd : (x == ("__debug__" : Str)) = false := by decide) : SE X pin (.Name x pos) (tC v) (fC d) :=
  ⟨pe_glob hg hm r hd, re_c h⟩
theorem se_bltn {x : Str} {v : V} {u : Value} {pos : Pos} (hg : Gl X x) (hm : X.mg x = none) (hv : bootBuiltins x = some u) (r : RelV v u) (hn : x ≠ "__name__" := by decide) (hd : (x == ("__debug__" : Str)) = false := by decide) : SE X pin (.Name x pos) (tC v) (fC (.raw v)) :=
  ⟨pe_bltn hg hm hv r hn hd, re_c fun _ => .raw .nil⟩

/-! ### operations -/
/-- an operation of two things on what is owned: g tells its outcome -/
def RG2 (K : PySem.W.Frag) (r : R2) (g : OD → OD → Option OD) : Prop := ∀ S H L x y ox oy oz (Q : VK), Own K S H [] ((y, oy) :: (x, ox) :: L) → g ox oy = some oz →
  (∀ v S' H', Ex S S' → Own K S' H' [] ((v, oz) :: (y, oy) :: (x, ox) :: L) → Q v H') → r x y H Q
def RG1 (K : PySem.W.Frag) (r : V → Hp → VK → Prop) (g : OD → Option OD) : Prop := ∀ S H L x ox oz (Q : VK), Own K S H [] ((x, ox) :: L) → g ox = some oz →
  (∀ v S' H', Ex S S' → Own K S' H' [] ((v, oz) :: (x, ox) :: L) → Q v H') → r x H Q
def RGC (K : PySem.W.Frag) (r : List V → Hp → VK → Prop) (g : List OD → Option OD) : Prop := ∀ S H L xs os oz (Q : VK), xs.length = os.length → Own K S H [] (xs.zip os ++ L) → g os = some oz →
  (∀ v S' H', Ex S S' → Own K S' H' [] ((v, oz) :: (xs.zip os ++ L)) → Q v H') → r xs H Q
def fBin (g : OD → OD → Option OD) (a b : Fo) : Fe := fun ρ => match a.1 ρ with
  | some (oa, ρ1) => (match b.1 ρ1 with
    | some (ob, ρ2) => (match g oa ob with
      | some oz => some (oz, a.2 oa (b.2 ob ρ2))
      | none => none)
    | none => none)
  | none => none
def fUn (g : OD → Option OD) (a : Fo) : Fe := fun ρ => match a.1 ρ with
  | some (oa, ρ1) => (match g oa with
    | some oz => some (oz, a.2 oa ρ1)
    | none => none)
  | none => none
theorem perm3 {a b c : It} {l : List It} : (a :: b :: c :: l).Perm (b :: c :: a :: l) := (List.Perm.swap _ _ _).trans (.cons _ (.swap _ _ _))
theorem re_bin {r : R2} {g : OD → OD → Option OD} {ta tb : TE} {a b : Fo} (ha : RO K pin ta a) (hb : RO K pin tb b) (hr : RG2 K r g) : RE K pin (tOp r ta tb) (fBin g a b) := by
  intro S H T ρ σ F Q od ρ' w e k
  unfold fBin at e
  split at e
  · rename_i oa ρ1 q1
    split at e
    · rename_i ob ρ2 q2
      split at e
      · rename_i oz q3
        cases e
        refine ha S H T ρ σ F _ oa ρ1 w q1 fun x S1 H1 e1 w1 rs1 => ?_
        refine hb S1 H1 _ ρ1 σ F _ ob ρ2 w1 q2 fun y S2 H2 e2 w2 rs2 => ?_
        refine hr S2 H2 (T ++ (its ρ2 σ ++ F)) x y oa ob od Q w2.own q3 fun v S3 H3 e3 w3 => ?_
        have z : Sat K pin S3 H3 ((y, ob) :: (x, oa) :: (v, od) :: T) ρ2 σ F := w2.with (w3.perm perm3)
        exact k v S3 H3 (ex_trans e1 (ex_trans e2 e3)) (rs1 _ _ _ _ _ (rs2 _ _ _ _ _ z))
      · cases e
    · cases e
  · cases e
theorem re_un {r : V → Hp → VK → Prop} {g : OD → Option OD} {ta : TE} {a : Fo} (ha : RO K pin ta a) (hr : RG1 K r g) : RE K pin (tUn r ta) (fUn g a) := by
  intro S H T ρ σ F Q od ρ' w e k
  unfold fUn at e
  split at e
  · rename_i oa ρ1 q1
    split at e
    · rename_i oz q3
      cases e
      refine ha S H T ρ σ F _ oa ρ1 w q1 fun x S1 H1 e1 w1 rs1 => ?_
      refine hr S1 H1 (T ++ (its ρ1 σ ++ F)) x oa od Q w1.own q3 fun v S3 H3 e3 w3 => ?_
      have z : Sat K pin S3 H3 ((x, oa) :: (v, od) :: T) ρ1 σ F := w1.with (w3.perm (.swap _ _ _))
      exact k v S3 H3 (ex_trans e1 e3) (rs1 _ _ _ _ _ z)
    · cases e
  · cases e
/-- f(a), f(a, b) of a built-in -/
theorem re_cb1 {r : List V → Hp → VK → Prop} {g : OD → Option OD} {ta : TE} {a : Fo} (ha : RO K pin ta a) (hr : RG1 K (fun x H Q => r [x] H Q) g) : RE K pin (tCB r (tCons ta tNil)) (fUn g a) := re_un (r := fun x H Q => r [x] H Q) ha hr
theorem re_cb2 {r : List V → Hp → VK → Prop} {g : OD → OD → Option OD} {ta tb : TE} {a b : Fo} (ha : RO K pin ta a) (hb : RO K pin tb b) (hr : RG2 K (fun x y H Q => r [x, y] H Q) g) : RE K pin (tCB r (tCons ta (tCons tb tNil))) (fBin g a b) := re_bin (r := fun x y H Q => r [x, y] H Q) ha hb hr

/-! ### argument lists: each frozen -/
def fNil : Fa := fun ρ => some ([], ρ)
def fCons (f : Fe) (r : Fa) : Fa := fun ρ => match f ρ with
  | some (o, ρ1) => (match r ρ1 with
    | some (os, ρ2) => some (o :: os, ρ2)
    | none => none)
  | none => none
theorem ra_nil : RA K pin tNil fNil := by
  intro S H T ρ σ F Q od ρ' w e k
  cases e
  exact k [] S H (ex_refl S) rfl w
theorem ra_cons {r : TA} {fr : Fa} (h : RE K pin t f) (hr : RA K pin r fr) : RA K pin (tCons t r) (fCons f fr) := by
  intro S H T ρ σ F Q od ρ' w e k
  unfold fCons at e
  split at e
  · rename_i o ρ1 q1
    split at e
    · rename_i os ρ2 q2
      cases e
      refine h S H T ρ σ F _ o ρ1 w q1 fun v S1 H1 e1 w1 => ?_
      refine hr S1 H1 _ ρ1 σ F _ os ρ' w1 q2 fun vs S2 H2 e2 hl w2 => ?_
      refine k (v :: vs) S2 H2 (ex_trans e1 e2) (by simp [hl]) (w2.with (w2.own.perm ?_))
      simp only [List.zip_cons_cons, List.cons_append, List.append_assoc]
      exact List.perm_middle
    · cases e
  · cases e
theorem sa_nil : SA X pin [] tNil fNil := ⟨pa_nil, ra_nil⟩
theorem sa_cons {es : List Expr} {r : TA} {fr : Fa} (h : SE X pin e t f) (hr : SA X pin es r fr) (hs : starEach (e :: es) X.env = (false, eval e X.env) :: starEach es X.env := by rfl) : SA X pin (e :: es) (tCons t r) (fCons f fr) :=
  ⟨pa_cons h.pe hr.pe hs, ra_cons h.rd hr.rd⟩
end
end Qy
set_option Elab.async false
set_option linter.all false
set_option maxRecDepth 100000
set_option maxHeartbeats 2000000
namespace Qy
open PySem PySem.Spec PyProof.Rows L2

/-! ### what an item shows when it is read -/
def stAll : List OD → Option (List D)
  | [] => some []
  | .st d :: r => (stAll r).map (d :: ·)
  | _ :: _ => none
def stK : List (Key × OD) → Option (List (Key × D))
  | [] => some []
  | (k, .st d) :: r => (stK r).map ((k, d) :: ·)
  | _ :: _ => none
def stT : List (List Key × OD) → Option (List (List Key × D))
  | [] => some []
  | (k, .st d) :: r => (stT r).map ((k, d) :: ·)
  | _ :: _ => none
def OD.rd : OD → Option D
  | .st d => some d
  | .ol xs => (stAll xs).map .lst
  | .oK kvs => (stK kvs).map .dK
  | .oT kvs => (stT kvs).map .dT
  | .oi _ _ => none
  | .cell _ _ => none
theorem stAll_map : ∀ ds : List D, stAll (ds.map .st) = some ds
  | [] => rfl
  | d :: r => by simp [stAll, stAll_map r]
theorem stAll_eq : ∀ {os : List OD} {ds : List D}, stAll os = some ds → os = ds.map .st
  | [], ds, h => by cases h; rfl
  | .st d :: r, ds, h => by
    simp only [stAll, Option.map_eq_some_iff] at h
    obtain ⟨e, h1, rfl⟩ := h
    rw [stAll_eq h1]; rfl
  | .ol _ :: _, _, h => by cases h
  | .oK _ :: _, _, h => by cases h
  | .oT _ :: _, _, h => by cases h
  | .oi _ _ :: _, _, h => by cases h
  | .cell _ _ :: _, _, h => by cases h
theorem stK_map : ∀ ds : List (Key × D), stK (ds.map fun p => (p.1, .st p.2)) = some ds
  | [] => rfl
  | (k, d) :: r => by simp [stK, stK_map r]
theorem stK_eq : ∀ {os : List (Key × OD)} {ds : List (Key × D)}, stK os = some ds → os = ds.map fun p => (p.1, .st p.2)
  | [], ds, h => by cases h; rfl
  | (k, .st d) :: r, ds, h => by
    simp only [stK, Option.map_eq_some_iff] at h
    obtain ⟨e, h1, rfl⟩ := h
    rw [stK_eq h1]; rfl
  | (_, .ol _) :: _, _, h => by cases h
  | (_, .oK _) :: _, _, h => by cases h
  | (_, .oT _) :: _, _, h => by cases h
  | (_, .oi _ _) :: _, _, h => by cases h
  | (_, .cell _ _) :: _, _, h => by cases h
theorem stT_map : ∀ ds : List (List Key × D), stT (ds.map fun p => (p.1, .st p.2)) = some ds
  | [] => rfl
  | (k, d) :: r => by simp [stT, stT_map r]
theorem stT_eq : ∀ {os : List (List Key × OD)} {ds : List (List Key × D)}, stT os = some ds → os = ds.map fun p => (p.1, .st p.2)
  | [], ds, h => by cases h; rfl
  | (k, .st d) :: r, ds, h => by
    simp only [stT, Option.map_eq_some_iff] at h
    obtain ⟨e, h1, rfl⟩ := h
    rw [stT_eq h1]; rfl
  | (_, .ol _) :: _, _, h => by cases h
  | (_, .oK _) :: _, _, h => by cases h
  | (_, .oT _) :: _, _, h => by cases h
  | (_, .oi _ _) :: _, _, h => by cases h
  | (_, .cell _ _) :: _, _, h => by cases h

def At (K : PySem.W.Frag) (S H : Hp) (x : V) (o : OD) : Prop := ∃ fp, OwI K S H [(x, o)] fp
section
variable {K : PySem.W.Frag} {S S' H H' : Hp} {L l : List It} {x y v : V} {o : OD} {d : D} {ex : List Addr}
theorem Own.at_ (h : Own K S H ex l) (m : (x, o) ∈ l) : At K S H x o := by
  obtain ⟨a, b, rfl⟩ := List.append_of_mem m
  obtain ⟨_, fp, w, _⟩ := h
  obtain ⟨f, g, _, _, h2⟩ := w.split
  obtain ⟨f', _, _, h3, _⟩ := OwI.split (a := [(x, o)]) h2
  exact ⟨f', h3⟩
theorem Own.at0 (h : Own K S H ex ((x, o) :: l)) : At K S H x o := h.at_ List.mem_cons_self
theorem Own.at1 {p : It} (h : Own K S H ex (p :: (x, o) :: l)) : At K S H x o := h.at_ (List.mem_cons_of_mem _ List.mem_cons_self)
theorem At.st (h : At K S H x (.st d)) : Rp K S x d := by
  obtain ⟨fp, w⟩ := h
  cases w with
  | st r _ => exact r
theorem zip_st {vs : List V} {ds : List D} : ∀ {f : List Addr}, vs.length = ds.length → OwI K S H (vs.zip (ds.map .st)) f → RpI K S (vs.zip ds) := by
  induction vs generalizing ds with
  | nil => exact fun _ _ => .nil
  | cons v vs ih =>
    intro f hl w
    cases ds with
    | nil => cases hl
    | cons d ds =>
      simp only [List.map_cons, List.zip_cons_cons] at w ⊢
      cases w with
      | st r t => exact .cons r (ih (by simpa using hl) t)
theorem owi_st {vs : List V} {ds : List D} (h : RpI K S (vs.zip ds)) : OwI K S H (vs.zip (ds.map .st)) [] := by
  induction vs generalizing ds with
  | nil => exact .nil
  | cons v vs ih =>
    cases ds with
    | nil => exact .nil
    | cons d ds =>
      simp only [List.map_cons, List.zip_cons_cons] at h ⊢
      exact .st h.head (ih h.tail)
theorem At.lst {ds : List D} (h : At K S H x o) (e : Ex S H) (r : o.rd = some (.lst ds)) : ∃ a vs, x = .ref a ∧ H a = some (.lst vs) ∧ vs.length = ds.length ∧ RpI K S (vs.zip ds) := by
  cases o with
  | st d' =>
    cases r
    cases h.st with
    | lst a b c _ => exact ⟨_, _, rfl, e _ _ a, b, c⟩
  | ol os =>
    simp only [OD.rd, Option.map_eq_some_iff] at r
    obtain ⟨z, h1, h2⟩ := r
    cases h2
    have q := stAll_eq h1
    subst q
    obtain ⟨fp, w⟩ := h
    cases w with
    | ol a b c q =>
      rename_i p vs f1 f2
      have b' : vs.length = ds.length := by simpa using b
      exact ⟨_, _, rfl, a, b', zip_st b' c⟩
  | oK os => simp only [OD.rd, Option.map_eq_some_iff] at r; obtain ⟨_, _, h2⟩ := r; cases h2
  | oT os => simp only [OD.rd, Option.map_eq_some_iff] at r; obtain ⟨_, _, h2⟩ := r; cases h2
  | oi _ _ => cases r
  | cell _ _ => cases r
theorem At.dK {ds : List (Key × D)} (h : At K S H x o) (e : Ex S H) (r : o.rd = some (.dK ds)) : ∃ a ks, x = .ref a ∧ H a = some (.dK ks) ∧ ks.map (·.1) = ds.map (·.1) ∧ RpI K S ((ks.map (·.2)).zip (ds.map (·.2))) := by
  cases o with
  | st d' =>
    cases r
    cases h.st with
    | dK a b c _ => exact ⟨_, _, rfl, e _ _ a, b, c⟩
  | oK os =>
    simp only [OD.rd, Option.map_eq_some_iff] at r
    obtain ⟨z, h1, h2⟩ := r
    cases h2
    have q := stK_eq h1
    subst q
    obtain ⟨fp, w⟩ := h
    cases w with
    | oK a b c q =>
      rename_i p ks f1 f2
      have b' : ks.map (·.1) = ds.map (·.1) := by rw [b]; simp
      refine ⟨_, _, rfl, a, b', zip_st (H := H) (f := f1) ?_ ?_⟩
      · have := congrArg List.length b'
        simpa using this
      · rw [List.map_map] at c ⊢; exact c
  | ol os => simp only [OD.rd, Option.map_eq_some_iff] at r; obtain ⟨_, _, h2⟩ := r; cases h2
  | oT os => simp only [OD.rd, Option.map_eq_some_iff] at r; obtain ⟨_, _, h2⟩ := r; cases h2
  | oi _ _ => cases r
  | cell _ _ => cases r
theorem At.dF {ds : List (Key × D)} (h : At K S H x o) (e : Ex S H) (r : o.rd = some (.dF ds)) : ∃ a od ks, x = .ref a ∧ H a = some (.frz od (.dK ks)) ∧ ks.map (·.1) = ds.map (·.1) ∧ RpI K S ((ks.map (·.2)).zip (ds.map (·.2))) := by
  cases o with
  | st d' =>
    cases r
    cases h.st with
    | dF a b c _ => exact ⟨_, _, _, rfl, e _ _ a, b, c⟩
  | ol os => simp only [OD.rd, Option.map_eq_some_iff] at r; obtain ⟨_, _, h2⟩ := r; cases h2
  | oK os => simp only [OD.rd, Option.map_eq_some_iff] at r; obtain ⟨_, _, h2⟩ := r; cases h2
  | oT os => simp only [OD.rd, Option.map_eq_some_iff] at r; obtain ⟨_, _, h2⟩ := r; cases h2
  | oi _ _ => cases r
  | cell _ _ => cases r
theorem At.dT {ds : List (List Key × D)} (h : At K S H x o) (e : Ex S H) (r : o.rd = some (.dT ds)) : ∃ a ks, x = .ref a ∧ H a = some (.dT ks) ∧ ks.map (·.1) = ds.map (·.1) ∧ RpI K S ((ks.map (·.2)).zip (ds.map (·.2))) := by
  cases o with
  | st d' =>
    cases r
    cases h.st with
    | dT a b c _ => exact ⟨_, _, rfl, e _ _ a, b, c⟩
  | oT os =>
    simp only [OD.rd, Option.map_eq_some_iff] at r
    obtain ⟨z, h1, h2⟩ := r
    cases h2
    have q := stT_eq h1
    subst q
    obtain ⟨fp, w⟩ := h
    cases w with
    | oT a b c q =>
      rename_i p ks f1 f2
      have b' : ks.map (·.1) = ds.map (·.1) := by rw [b]; simp
      refine ⟨_, _, rfl, a, b', zip_st (H := H) (f := f1) ?_ ?_⟩
      · have := congrArg List.length b'
        simpa using this
      · rw [List.map_map] at c ⊢; exact c
  | ol os => simp only [OD.rd, Option.map_eq_some_iff] at r; obtain ⟨_, _, h2⟩ := r; cases h2
  | oK os => simp only [OD.rd, Option.map_eq_some_iff] at r; obtain ⟨_, _, h2⟩ := r; cases h2
  | oi _ _ => cases r
  | cell _ _ => cases r
/-- anything but a list or dict is stable -/
theorem At.plain (h : At K S H x o) (r : o.rd = some d) (n : ∀ ds, d ≠ .lst ds) (n1 : ∀ ds, d ≠ .dK ds) (n2 : ∀ ds, d ≠ .dT ds) : Rp K S x d := by
  cases o with
  | st d' => cases r; exact h.st
  | ol os => simp only [OD.rd, Option.map_eq_some_iff] at r; obtain ⟨_, _, h2⟩ := r; exact absurd h2.symm (n _)
  | oK os => simp only [OD.rd, Option.map_eq_some_iff] at r; obtain ⟨_, _, h2⟩ := r; exact absurd h2.symm (n1 _)
  | oT os => simp only [OD.rd, Option.map_eq_some_iff] at r; obtain ⟨_, _, h2⟩ := r; exact absurd h2.symm (n2 _)
  | oi _ _ => cases r
  | cell _ _ => cases r
theorem At.tup {ds : List D} (h : At K S H x o) (e : Ex S H) (r : o.rd = some (.tup ds)) : ∃ a vs, x = .ref a ∧ S a = some (.tup vs) ∧ vs.length = ds.length ∧ RpI K S (vs.zip ds) := by
  cases h.plain r (by simp) (by simp) (by simp) with
  | tup a b c _ => exact ⟨_, _, rfl, a, b, c⟩
/-! ### new things -/
theorem Own.newS {p : Addr} {vs : List V} {ds : List D} (h : Own K S H [] L) (r : RpI K S (vs.zip ds)) (hl : vs.length = ds.length) (n : H p = none) : Own K S (upd H p (.lst vs)) [] ((.ref p, .ol (ds.map .st)) :: L) := by
  obtain ⟨e, fp, w, nd, sn, _⟩ := h
  have h1 : Own K S H [p] (vs.zip (ds.map .st) ++ L) := ⟨e, fp, by simpa using (owi_st r).append w, nd, sn, fun q hq => by
    have z : q = p := by simpa using hq
    subst z
    refine ⟨fun hm => ?_, ex_none e n⟩
    obtain ⟨u, hu⟩ := w.there q hm
    rw [n] at hu; cases hu⟩
  exact h1.close (by simpa using hl) (by simp)
theorem Own.newL {p : Addr} {vs : List V} {os : List OD} (h : Own K S H [] (vs.zip os ++ L)) (hl : vs.length = os.length) (n : H p = none) : Own K S (upd H p (.lst vs)) [] ((.ref p, .ol os) :: L) := by
  obtain ⟨e, fp, w, nd, sn, _⟩ := h
  have h1 : Own K S H [p] (vs.zip os ++ L) := ⟨e, fp, w, nd, sn, fun q hq => by
    have z : q = p := by simpa using hq
    subst z
    refine ⟨fun hm => ?_, ex_none e n⟩
    obtain ⟨u, hu⟩ := w.there q hm
    rw [n] at hu; cases hu⟩
  exact h1.close hl (by simp)
theorem Own.newT {p : Addr} {vs : List V} {ds : List D} (h : Own K S H [] L) (r : RpI K S (vs.zip ds)) (hl : vs.length = ds.length) (n : H p = none) : Ex S (upd S p (.tup vs)) ∧ Own K (upd S p (.tup vs)) (upd H p (.tup vs)) [] ((.ref p, .st (.tup ds)) :: L) := by
  have e : Ex S (upd S p (.tup vs)) := ex_new (ex_none h.le n)
  exact ⟨e, (h.stable n).push (.tup upd_same hl (r.mono e) .nil)⟩

/-! ### operations, each told by its outcome on trees -/
def gII (g : Int → Int → Option D) : OD → OD → Option OD
  | .st (.int i), .st (.int j) => (g i j).map .st
  | _, _ => none
def gSS (g : Str → Str → Option D) : OD → OD → Option OD
  | .st (.str i), .st (.str j) => (g i j).map .st
  | _, _ => none
def gI (g : Int → Option D) : OD → Option OD
  | .st (.int i) => (g i).map .st
  | _ => none
def gOr2 (g1 g2 : OD → OD → Option OD) : OD → OD → Option OD := fun a b => match g1 a b with
  | some z => some z
  | none => g2 a b
def gOr1 (g1 g2 : OD → Option OD) : OD → Option OD := fun a => match g1 a with
  | some z => some z
  | none => g2 a
theorem RG2.or {r1 r2 : R2} {g1 g2 : OD → OD → Option OD} (h1 : RG2 K r1 g1) (h2 : RG2 K r2 g2) : RG2 K (fun x y H Q => r1 x y H Q ∨ r2 x y H Q) (gOr2 g1 g2) := by
  intro S H L x y ox oy oz Q w e k
  unfold gOr2 at e
  cases q : g1 ox oy with
  | some z => rw [q] at e; cases e; exact .inl (h1 S H L x y ox oy oz Q w q k)
  | none => rw [q] at e; exact .inr (h2 S H L x y ox oy oz Q w e k)
theorem RG1.or {r1 r2 : V → Hp → VK → Prop} {g1 g2 : OD → Option OD} (h1 : RG1 K r1 g1) (h2 : RG1 K r2 g2) : RG1 K (fun x H Q => r1 x H Q ∨ r2 x H Q) (gOr1 g1 g2) := by
  intro S H L x ox oz Q w e k
  unfold gOr1 at e
  cases q : g1 ox with
  | some z => rw [q] at e; cases e; exact .inl (h1 S H L x ox oz Q w q k)
  | none => rw [q] at e; exact .inr (h2 S H L x ox oz Q w e k)
theorem OpR.or {X : Cx} {f : Value → Value → Sem Value} {r1 r2 : R2} (h1 : OpR X f r1) (h2 : OpR X f r2) : OpR X f (fun x y H Q => r1 x y H Q ∨ r2 x y H Q) := fun pins s σ H x y v u Q I rx ry h => by
  rcases h with h | h
  · exact h1 pins s σ H x y v u Q I rx ry h
  · exact h2 pins s σ H x y v u Q I rx ry h
theorem CallR.or {X : Cx} {f : Value} {r1 r2 : List V → Hp → VK → Prop} (h1 : CallR X f r1) (h2 : CallR X f r2) : CallR X f (fun xs H Q => r1 xs H Q ∨ r2 xs H Q) := fun pins s σ H xs us Q I r h => by
  rcases h with h | h
  · exact h1 pins s σ H xs us Q I r h
  · exact h2 pins s σ H xs us Q I r h
/-- the outcome is a plain thing -/
def Pl (K : PySem.W.Frag) (v : V) (d : D) : Prop := ∀ S, Rp K S v d
theorem pl_int {i : Int} : Pl K (.int i) (.int i) := fun _ => .int .nil
theorem pl_bl {i : Bool} : Pl K (.bl i) (.bl i) := fun _ => .bl .nil
theorem pl_str {i : Str} : Pl K (.str i) (.str i) := fun _ => .str .nil
theorem rg_ii {r : R2} {g : Int → Int → Option D} (h : ∀ i j d, g i j = some d → ∃ v, Pl K v d ∧ ∀ H Q, Q v H → r (.int i) (.int j) H Q) : RG2 K r (gII g) := by
  intro S H L x y ox oy oz Q w e k
  unfold gII at e
  split at e
  · rename_i i j
    obtain ⟨d, hd, rfl⟩ := Option.map_eq_some_iff.mp e
    obtain ⟨v, pv, q⟩ := h i j d hd
    cases w.at1.st
    cases w.at0.st
    exact q H Q (k v S H (ex_refl S) (w.push (pv S)))
  · cases e
theorem rg_ss {r : R2} {g : Str → Str → Option D} (h : ∀ i j d, g i j = some d → ∃ v, Pl K v d ∧ ∀ H Q, Q v H → r (.str i) (.str j) H Q) : RG2 K r (gSS g) := by
  intro S H L x y ox oy oz Q w e k
  unfold gSS at e
  split at e
  · rename_i i j
    obtain ⟨d, hd, rfl⟩ := Option.map_eq_some_iff.mp e
    obtain ⟨v, pv, q⟩ := h i j d hd
    cases w.at1.st
    cases w.at0.st
    exact q H Q (k v S H (ex_refl S) (w.push (pv S)))
  · cases e
theorem rg_i {r : V → Hp → VK → Prop} {g : Int → Option D} (h : ∀ i d, g i = some d → ∃ v, Pl K v d ∧ ∀ H Q, Q v H → r (.int i) H Q) : RG1 K r (gI g) := by
  intro S H L x ox oz Q w e k
  unfold gI at e
  split at e
  · rename_i i
    obtain ⟨d, hd, rfl⟩ := Option.map_eq_some_iff.mp e
    obtain ⟨v, pv, q⟩ := h i d hd
    cases w.at0.st
    exact q H Q (k v S H (ex_refl S) (w.push (pv S)))
  · cases e
end
end Qy
set_option Elab.async false
set_option linter.all false
set_option maxRecDepth 100000
set_option maxHeartbeats 2000000
namespace Qy
open PySem PySem.Spec PyProof.Rows L2
section
variable {X : Cx} {pin : List (Option V)} {K : PySem.W.Frag} {e a b : Expr} {t ta tb : TE} {f : Fe} {oa ob : Fo} {pos p : Pos}
def big : Nat := 1000000
theorem big_le {n : Nat} (h : n ≤ big) : n ≤ sizeLine := Nat.le_trans h (by decide)
theorem big_lt {n : Nat} (h : n ≤ big) : n < sizeLine := Nat.lt_of_le_of_lt h (by decide)

/-! ### arithmetic -/
def gAddI := gII fun i j => some (.int (i + j))
def gSubI := gII fun i j => some (.int (i - j))
def gMulI := gII fun i j => if ((-(2 ^ 64) < i ∧ i < 2 ^ 64) ∨ (-(2 ^ 64) < j ∧ j < 2 ^ 64)) then some (.int (i * j)) else none
def gDiv := gII fun i j => if 0 < j ∧ j < 1073741824 then some (.int (i / j)) else none
def gMod := gII fun i j => if 0 < j then some (.int (i % j)) else none
def gPow := gII fun i j => if 0 ≤ j ∧ j ≤ 1000000 ∧ i.natAbs < 2 ^ 64 then some (.int (i ^ j.toNat)) else none
def gNeg := gI fun i => some (.int (-i))
theorem rg_add : RG2 K (rI0 fun i j => .int (i + j)) gAddI := rg_ii fun i j d h => by cases h; exact ⟨_, pl_int, fun H Q q => ⟨i, j, rfl, rfl, q⟩⟩
theorem rg_sub : RG2 K (rI0 fun i j => .int (i - j)) gSubI := rg_ii fun i j d h => by cases h; exact ⟨_, pl_int, fun H Q q => ⟨i, j, rfl, rfl, q⟩⟩
theorem rg_mul : RG2 K (rI CMul fun i j => .int (i * j)) gMulI := rg_ii fun i j d h => by
  split at h
  · rename_i c; cases h; exact ⟨_, pl_int, fun H Q q => ⟨i, j, rfl, rfl, c, q⟩⟩
  · cases h
theorem rg_div : RG2 K (rI CDiv fun i j => .int (i / j)) gDiv := rg_ii fun i j d h => by
  split at h
  · rename_i c; cases h; exact ⟨_, pl_int, fun H Q q => ⟨i, j, rfl, rfl, c, q⟩⟩
  · cases h
theorem rg_mod : RG2 K (rI (fun _ j => 0 < j) fun i j => .int (i % j)) gMod := rg_ii fun i j d h => by
  split at h
  · rename_i c; cases h; exact ⟨_, pl_int, fun H Q q => ⟨i, j, rfl, rfl, c, q⟩⟩
  · cases h
theorem rg_pow : RG2 K (rI CPow fun i j => .int (i ^ j.toNat)) gPow := rg_ii fun i j d h => by
  split at h
  · rename_i c; cases h; exact ⟨_, pl_int, fun H Q q => ⟨i, j, rfl, rfl, c, q⟩⟩
  · cases h
theorem rg_neg : RG1 K (rU fun i => .int (-i)) gNeg := rg_i fun i d h => by cases h; exact ⟨_, pl_int, fun H Q q => ⟨i, rfl, q⟩⟩
def gAddS := gSS fun i j => if i.length + j.length ≤ big then some (.str (i ++ j)) else none
theorem rg_addS : RG2 K (fun x y H Q => ∃ i j, x = .str i ∧ y = .str j ∧ i.length + j.length ≤ sizeLine ∧ Q (.str (i ++ j)) H) gAddS := rg_ss fun i j d h => by
  split at h
  · rename_i c; cases h; exact ⟨_, pl_str, fun H Q q => ⟨i, j, rfl, rfl, big_le c, q⟩⟩
  · cases h
/-- lists joined: a new one -/
def gCat : OD → OD → Option OD := fun a b => match a.rd, b.rd with
  | some (.lst xs), some (.lst ys) => if xs.length + ys.length ≤ big then some (.ol ((xs ++ ys).map .st)) else none
  | _, _ => none
theorem zip_app {α β : Type} : ∀ {a c : List α} {b d : List β}, a.length = b.length → (a ++ c).zip (b ++ d) = a.zip b ++ c.zip d
  | [], _, [], _, _ => rfl
  | x :: a, c, y :: b, d, h => by simp [zip_app (a := a) (b := b) (c := c) (d := d) (by simpa using h)]
theorem rg_cat : RG2 K rCat gCat := by
  intro S H L x y ox oy oz Q w e k
  unfold gCat at e
  split at e
  · rename_i xs ys hx hy
    split at e
    · rename_i c
      cases e
      obtain ⟨a, vs, rfl, ha, la, ra⟩ := w.at1.lst w.le hx
      obtain ⟨b, us, rfl, hb, lb, rb⟩ := w.at0.lst w.le hy
      refine ⟨a, b, vs, us, rfl, rfl, ha, hb, big_le (by omega), fun p hp => k _ S _ (ex_refl S) ?_⟩
      refine Own.newS w ?_ (by simp [la, lb]) hp
      rw [zip_app la]
      exact ra.append rb
    · cases e
  · cases e
def gAdd := gOr2 gAddI (gOr2 gAddS gCat)
theorem so_op {op : Operator} {r : R2} {g : OD → OD → Option OD} (ho : OpR X (binaryOp op) r) (hr : RG2 X.K r g) (ha : SO X pin a ta oa) (hb : SO X pin b tb ob) : SE X pin (.BinOp a op b pos) (tOp r ta tb) (fBin g oa ob) := ⟨pe_op ho ha.pe hb.pe, re_bin ha.rd hb.rd hr⟩
theorem so_un {op : UnaryOp} {r : V → Hp → VK → Prop} {g : OD → Option OD} (ho : UnR X (unaryOp op) r) (hr : RG1 X.K r g) (ha : SO X pin a ta oa) : SE X pin (.UnaryOp op a pos) (tUn r ta) (fUn g oa) := ⟨pe_un ho ha.pe, re_un ha.rd hr⟩
def rAddQ : R2 := fun x y H Q => rI0 (fun i j => .int (i + j)) x y H Q ∨ ((∃ i j, x = .str i ∧ y = .str j ∧ i.length + j.length ≤ sizeLine ∧ Q (.str (i ++ j)) H) ∨ rCat x y H Q)
theorem op_addQ : OpR X (binaryOp .Add) rAddQ := OpR.or op_add (OpR.or op_add_str op_cat)
theorem rg_addQ : RG2 K rAddQ gAdd := rg_add.or (rg_addS.or rg_cat)
/-- a list again and again -/
def gRep : OD → OD → Option OD := fun a b => match a.rd, b.rd with
  | some (.lst xs), some (.int k) => if 0 ≤ k ∧ k ≤ 1000000 ∧ xs.length * k.toNat ≤ big then some (.ol ((List.replicate k.toNat xs).flatten.map .st)) else none
  | _, _ => none
def gMul := gMulI

/-! ### order -/
def gLtI := gII fun i j => some (.bl (decide (i < j)))
def gLe := gII fun i j => some (.bl (decide (i ≤ j)))
def gGt := gII fun i j => some (.bl (decide (j < i)))
def gGe := gII fun i j => some (.bl (decide (j ≤ i)))
theorem rg_lt : RG2 K (rI0 fun i j => .bl (decide (i < j))) gLtI := rg_ii fun i j d h => by cases h; exact ⟨_, pl_bl, fun H Q q => ⟨i, j, rfl, rfl, q⟩⟩
theorem rg_le : RG2 K (rI0 fun i j => .bl (decide (i ≤ j))) gLe := rg_ii fun i j d h => by cases h; exact ⟨_, pl_bl, fun H Q q => ⟨i, j, rfl, rfl, q⟩⟩
theorem rg_gt : RG2 K (rI0 fun i j => .bl (decide (j < i))) gGt := rg_ii fun i j d h => by cases h; exact ⟨_, pl_bl, fun H Q q => ⟨i, j, rfl, rfl, q⟩⟩
theorem rg_ge : RG2 K (rI0 fun i j => .bl (decide (j ≤ i))) gGe := rg_ii fun i j d h => by cases h; exact ⟨_, pl_bl, fun H Q q => ⟨i, j, rfl, rfl, q⟩⟩
def gLtS := gSS fun i j => some (.bl (decide (i.cps.toList < j.cps.toList)))
theorem rg_ltS : RG2 K (fun x y H Q => ∃ i j, x = .str i ∧ y = .str j ∧ Q (.bl (decide (i.cps.toList < j.cps.toList))) H) gLtS := rg_ss fun i j d h => by cases h; exact ⟨_, pl_bl, fun H Q q => ⟨i, j, rfl, rfl, q⟩⟩
/-- intsOf out of data -/
def intsOf : List D → Option (List Int)
  | [] => some []
  | .int i :: r => (intsOf r).map (i :: ·)
  | _ :: _ => none
theorem ints_eq : ∀ {ds : List D} {ns : List Int}, intsOf ds = some ns → ds = ns.map .int
  | [], ns, h => by cases h; rfl
  | .int i :: r, ns, h => by
    simp only [intsOf, Option.map_eq_some_iff] at h
    obtain ⟨e, h1, rfl⟩ := h
    rw [ints_eq h1]; rfl
  | .non :: _, _, h | .bl _ :: _, _, h | .str _ :: _, _, h | .lst _ :: _, _, h | .tup _ :: _, _, h | .dK _ :: _, _, h | .dT _ :: _, _, h | .ins _ _ :: _, _, h | .raw _ :: _, _, h | .scr _ :: _, _, h | .kt _ :: _, _, h | .dF _ :: _, _, h => by cases h
theorem ints_map : ∀ ns : List Int, intsOf (ns.map .int) = some ns
  | [] => rfl
  | n :: r => by simp [intsOf, ints_map r]
theorem rp_ints {S : Hp} : ∀ {vs : List V} {ns : List Int}, vs.length = ns.length → RpI K S (vs.zip (ns.map .int)) → vs = ns.map V.int
  | [], [], _, _ => rfl
  | [], _ :: _, h, _ => by cases h
  | _ :: _, [], h, _ => by cases h
  | v :: vs, n :: ns, h, r => by
    simp only [List.map_cons, List.zip_cons_cons] at r
    have := rp_ints (by simpa using h) r.tail
    subst this
    cases r.head
    rfl
def gLtT : OD → OD → Option OD := fun a b => match a.rd, b.rd with
  | some (.tup xs), some (.tup ys) => (match intsOf xs, intsOf ys with
    | some ns, some ms => some (.st (.bl (HT.lexLt ns ms)))
    | _, _ => none)
  | _, _ => none
theorem rg_ltT : RG2 K (rLtT K) gLtT := by
  intro S H L x y ox oy oz Q w e k
  unfold gLtT at e
  split at e
  · rename_i xs ys hx hy
    split at e
    · rename_i ns ms h1 h2
      cases e
      obtain ⟨a, vs, rfl, ha, la, ra⟩ := w.at1.tup w.le hx
      obtain ⟨b, us, rfl, hb, lb, rb⟩ := w.at0.tup w.le hy
      rw [ints_eq h1] at la ra
      rw [ints_eq h2] at lb rb
      have e1 := rp_ints (by simpa using la) ra
      have e2 := rp_ints (by simpa using lb) rb
      subst e1
      subst e2
      exact ⟨a, b, ns, ms, rfl, rfl, SqT.of (w.le _ _ ha), SqT.of (w.le _ _ hb), k _ S H (ex_refl S) (w.push (.bl .nil))⟩
    · cases e
  · cases e
def gLt := gOr2 gLtI (gOr2 gLtS gLtT)
theorem so_cmp {op : CmpOp} {r : R2} {g : OD → OD → Option OD} (ho : OpR X (compareOp op) r) (hr : RG2 X.K r g) (ha : SO X pin a ta oa) (hb : SO X pin b tb ob) (hm : behindInMarks op b = false) : SE X pin (.Compare a [op] [b] pos) (tOp r ta tb) (fBin g oa ob) :=
  ⟨pe_cmpR ho ha.pe hb.pe hm, re_bin ha.rd hb.rd hr⟩
/-- a bool told by an expression -/
def fB (f : Fe) : Ft := fun ρ => match f ρ with
  | some (.st (.bl b), ρ') => some (b, ρ')
  | _ => none
theorem rt_B (h : RE K pin t f) : RT K pin (tB t) (fB f) := by
  intro S H T ρ σ F Q b ρ' w e k
  unfold fB at e
  split at e
  · rename_i c ρ1 q
    cases e
    refine h S H T ρ σ F _ _ _ w q fun v S' H' x w' => ?_
    cases w'.known
    exact ⟨b, rfl, k S' H' x w'.tl⟩
  · cases e
theorem st_cmp {op : CmpOp} {r : R2} {g : OD → OD → Option OD} (ho : OpR X (compareOp op) r) (hr : RG2 X.K r g) (ha : SO X pin a ta oa) (hb : SO X pin b tb ob) (hm : behindInMarks op b = false) : STs X pin (.Compare a [op] [b] pos) (tTest (tOp r ta tb)) (fB (fBin g oa ob)) :=
  ⟨pt_cmpR ho ha.pe hb.pe hm, rt_B (re_bin ha.rd hb.rd hr)⟩
theorem st_val (h : SE X pin e t f) (he : ∀ whole, isTrue e X.env whole = (do let v ← whole; standAt e.pos; holding [v] (truthy v)) := by intro _; rfl) : STs X pin e (tB t) (fB f) := ⟨pt_val h.pe he, rt_B h.rd⟩
/-! ### and, or, not, if -/
variable {tA tB' : TT} {fa fb : Ft} {rest : List Expr}
def fNot (f : Ft) : Ft := fun ρ => match f ρ with
  | some (b, ρ') => some (!b, ρ')
  | none => none
def fAnd (f g : Ft) : Ft := fun ρ => match f ρ with
  | some (true, ρ') => g ρ'
  | some (false, ρ') => some (false, ρ')
  | none => none
def fOr (f g : Ft) : Ft := fun ρ => match f ρ with
  | some (true, ρ') => some (true, ρ')
  | some (false, ρ') => g ρ'
  | none => none
theorem rt_not (h : RT K pin tA fa) : RT K pin (tNot tA) (fNot fa) := by
  intro S H T ρ σ F Q b ρ' w e k
  unfold fNot at e
  split at e
  · rename_i c ρ1 q; cases e; exact h S H T ρ σ F _ _ _ w q k
  · cases e
theorem rt_and (h : RT K pin tA fa) (h2 : RT K pin tB' fb) : RT K pin (tAnd tA tB') (fAnd fa fb) := by
  intro S H T ρ σ F Q b ρ' w e k
  unfold fAnd at e
  split at e
  · rename_i ρ1 q
    refine h S H T ρ σ F _ _ _ w q fun S' H' x w' => ?_
    show tB' σ H' Q
    exact h2 S' H' T ρ1 σ F _ _ _ w' e fun S2 H2 x2 w2 => k S2 H2 (ex_trans x x2) w2
  · rename_i ρ1 q
    cases e
    exact h S H T ρ σ F _ _ _ w q fun S' H' x w' => k S' H' x w'
  · cases e
theorem rt_or (h : RT K pin tA fa) (h2 : RT K pin tB' fb) : RT K pin (tOr tA tB') (fOr fa fb) := by
  intro S H T ρ σ F Q b ρ' w e k
  unfold fOr at e
  split at e
  · rename_i ρ1 q
    cases e
    exact h S H T ρ σ F _ _ _ w q fun S' H' x w' => k S' H' x w'
  · rename_i ρ1 q
    refine h S H T ρ σ F _ _ _ w q fun S' H' x w' => ?_
    show tB' σ H' Q
    exact h2 S' H' T ρ1 σ F _ _ _ w' e fun S2 H2 x2 w2 => k S2 H2 (ex_trans x x2) w2
  · cases e
structure SW (X : Cx) (pin : List (Option V)) (e : Expr) (t : TT) (f : Ft) : Prop where
  pe : PW X e t
  rd : RT X.K pin t f
theorem SW.st (h : SW X pin e tA fa) : STs X pin e tA fa := ⟨h.pe.pt, h.rd⟩
theorem st_not (h : STs X pin a tA fa) : STs X pin (.UnaryOp .Not a pos) (tNot tA) (fNot fa) := ⟨pt_not h.pe, rt_not h.rd⟩
theorem sw_and1 (h : STs X pin a tA fa) : SW X pin (.BoolOp .And [a] pos) tA fa := ⟨pw_and1 h.pe, h.rd⟩
theorem sw_or1 (h : STs X pin a tA fa) : SW X pin (.BoolOp .Or [a] pos) tA fa := ⟨pw_or1 h.pe, h.rd⟩
theorem sw_and (h : STs X pin a tA fa) (h2 : SW X pin (.BoolOp .And (b :: rest) pos) tB' fb) : SW X pin (.BoolOp .And (a :: b :: rest) pos) (tAnd tA tB') (fAnd fa fb) := ⟨pw_and h.pe h2.pe, rt_and h.rd h2.rd⟩
theorem sw_or (h : STs X pin a tA fa) (h2 : SW X pin (.BoolOp .Or (b :: rest) pos) tB' fb) : SW X pin (.BoolOp .Or (a :: b :: rest) pos) (tOr tA tB') (fOr fa fb) := ⟨pw_or h.pe h2.pe, rt_or h.rd h2.rd⟩
/-- as values (bools) -/
def fAndV (f g : Fe) : Fe := fun ρ => match f ρ with
  | some (.st (.bl true), ρ') => g ρ'
  | some (.st (.bl false), ρ') => some (.st (.bl false), ρ')
  | _ => none
def fOrV (f g : Fe) : Fe := fun ρ => match f ρ with
  | some (.st (.bl true), ρ') => some (.st (.bl true), ρ')
  | some (.st (.bl false), ρ') => g ρ'
  | _ => none
def gNotV : OD → Option OD
  | .st (.bl b) => some (.st (.bl (!b)))
  | _ => none
variable {f1 f2 : Fe}
theorem re_andV (h : RE K pin ta f1) (h2 : RE K pin tb f2) : RE K pin (tAndV ta tb) (fAndV f1 f2) := by
  intro S H T ρ σ F Q b ρ' w e k
  unfold fAndV at e
  split at e
  · rename_i ρ1 q
    refine h S H T ρ σ F _ _ _ w q fun v S' H' x w' => ?_
    cases w'.known
    refine ⟨true, rfl, ?_⟩
    show tb σ H' Q
    exact h2 S' H' T ρ1 σ F _ _ _ w'.tl e fun v S2 H2 x2 w2 => k v S2 H2 (ex_trans x x2) w2
  · rename_i ρ1 q
    cases e
    refine h S H T ρ σ F _ _ _ w q fun v S' H' x w' => ?_
    cases w'.known
    exact ⟨false, rfl, k _ S' H' x w'⟩
  · cases e
theorem re_orV (h : RE K pin ta f1) (h2 : RE K pin tb f2) : RE K pin (tOrV ta tb) (fOrV f1 f2) := by
  intro S H T ρ σ F Q b ρ' w e k
  unfold fOrV at e
  split at e
  · rename_i ρ1 q
    cases e
    refine h S H T ρ σ F _ _ _ w q fun v S' H' x w' => ?_
    cases w'.known
    exact ⟨true, rfl, k _ S' H' x w'⟩
  · rename_i ρ1 q
    refine h S H T ρ σ F _ _ _ w q fun v S' H' x w' => ?_
    cases w'.known
    refine ⟨false, rfl, ?_⟩
    show tb σ H' Q
    exact h2 S' H' T ρ1 σ F _ _ _ w'.tl e fun v S2 H2 x2 w2 => k v S2 H2 (ex_trans x x2) w2
  · cases e
theorem re_notV {a : Fo} (h : RO K pin ta a) : RE K pin (tNotV ta) (fUn gNotV a) := by
  refine re_un (r := fun x H Q => ∃ c, x = .bl c ∧ Q (.bl (!c)) H) h ?_
  intro S H L x ox oz Q w e k
  unfold gNotV at e
  split at e
  · cases e
    cases w.at0.st
    exact ⟨_, rfl, k _ S H (ex_refl S) (w.push (.bl .nil))⟩
  · cases e
theorem se_one {op} (h : SE X pin a ta f1) : SE X pin (.BoolOp op [a] pos) ta f1 := ⟨pe_one h.pe, h.rd⟩
theorem se_and (h : SE X pin a ta f1) (h2 : SE X pin (.BoolOp .And (b :: rest) pos) tb f2) : SE X pin (.BoolOp .And (a :: b :: rest) pos) (tAndV ta tb) (fAndV f1 f2) := ⟨pe_and h.pe h2.pe, re_andV h.rd h2.rd⟩
theorem se_or (h : SE X pin a ta f1) (h2 : SE X pin (.BoolOp .Or (b :: rest) pos) tb f2) : SE X pin (.BoolOp .Or (a :: b :: rest) pos) (tOrV ta tb) (fOrV f1 f2) := ⟨pe_or h.pe h2.pe, re_orV h.rd h2.rd⟩
theorem so_not (h : SO X pin a ta oa) : SE X pin (.UnaryOp .Not a pos) (tNotV ta) (fUn gNotV oa) := ⟨pe_not h.pe, re_notV h.rd⟩
def fIf (c : Ft) (f g : Fe) : Fe := fun ρ => match c ρ with
  | some (true, ρ') => f ρ'
  | some (false, ρ') => g ρ'
  | none => none
theorem re_if (h : RT K pin tA fa) (h1 : RE K pin ta f1) (h2 : RE K pin tb f2) : RE K pin (tIf tA ta tb) (fIf fa f1 f2) := by
  intro S H T ρ σ F Q b ρ' w e k
  unfold fIf at e
  split at e
  · rename_i ρ1 q
    refine h S H T ρ σ F _ _ _ w q fun S' H' x w' => ?_
    show ta σ H' Q
    exact h1 S' H' T ρ1 σ F _ _ _ w' e fun v S2 H2 x2 w2 => k v S2 H2 (ex_trans x x2) w2
  · rename_i ρ1 q
    refine h S H T ρ σ F _ _ _ w q fun S' H' x w' => ?_
    show tb σ H' Q
    exact h2 S' H' T ρ1 σ F _ _ _ w' e fun v S2 H2 x2 w2 => k v S2 H2 (ex_trans x x2) w2
  · cases e
theorem se_if {c : Expr} (h : STs X pin c tA fa) (h1 : SE X pin a ta f1) (h2 : SE X pin b tb f2) : SE X pin (.IfExp c a b pos) (tIf tA ta tb) (fIf fa f1 f2) := ⟨pe_ifExp h.pe h1.pe h2.pe, re_if h.rd h1.rd h2.rd⟩
end
end Qy
set_option Elab.async false
set_option linter.all false
set_option maxRecDepth 100000
set_option maxHeartbeats 400000
namespace Qy
open PySem PySem.Spec PyProof.Rows L2
section
variable {X : Cx} {pin : List (Option V)} {K : PySem.W.Frag} {e a b : Expr} {t ta tb : TE} {f : Fe} {oa ob : Fo} {pos p : Pos} {st : Stmt} {rest : List Stmt} {ts us : TS} {fs gs : Fs} {tA : TT} {fa : Ft}
/-! ### blocks -/
def fNext : Fs := fun ρ => some (.nx ρ)
def fStuck : Fs := fun _ => none
def fSeq (f g : Fs) : Fs := fun ρ => match f ρ with
  | some (.nx ρ') => g ρ'
  | o => o
theorem rs_next : RS K pin tNext fNext := by
  intro S H ρ σ F E o w e k
  cases e
  exact k S H σ (ex_refl S) w
theorem rs_stuck : RS K pin ts fStuck := by
  intro S H ρ σ F E o w e k
  cases e
theorem rs_seq (h1 : RS K pin ts fs) (h2 : RS K pin us gs) : RS K pin (tSeq ts us) (fSeq fs gs) := by
  intro S H ρ σ F E o w e k
  unfold fSeq at e
  split at e
  · rename_i ρ1 q
    exact h1 S H ρ σ F _ _ w q fun S' H' σ' x w' => h2 S' H' ρ1 σ' F E o w' e (k.le x)
  · rename_i q
    refine h1 S H ρ σ F _ _ w e ?_
    cases o with
    | nx ρ1 => exact absurd e (q ρ1)
    | bk ρ1 => exact k
    | ct ρ1 => exact k
    | rt u ρ1 => exact k
theorem sb_nil : SB X pin [] tNext fNext := ⟨pss_nil, rs_next⟩
theorem sb_one (h : SS X pin st ts fs) : SB X pin [st] ts fs := ⟨pss_one h.pe, h.rd⟩
theorem sb_cons (h : SS X pin st ts fs) (h2 : SB X pin rest us gs) : SB X pin (st :: rest) (tSeq ts us) (fSeq fs gs) := ⟨pss_cons h.pe h2.pe, rs_seq h.rd h2.rd⟩
theorem ss_pass : SS X pin (.Pass pos) tNext fNext := ⟨ps_pass, rs_next⟩
theorem ss_never : SS X pin st tNever fStuck := ⟨ps_never, rs_stuck⟩
theorem ss_break : SS X pin (.Break pos) tBreak (fun ρ => some (.bk ρ)) := ⟨ps_break, by
  intro S H ρ σ F E o w e k
  cases e
  exact k S H σ (ex_refl S) w⟩
theorem ss_continue : SS X pin (.Continue pos) tCont (fun ρ => some (.ct ρ)) := ⟨ps_continue, by
  intro S H ρ σ F E o w e k
  cases e
  exact k S H σ (ex_refl S) w⟩
def fX (f : Fe) : Fs := fun ρ => match f ρ with
  | some (_, ρ') => some (.nx ρ')
  | none => none
theorem ss_expr (h : SE X pin e t f) (hs : swapsWith e none pos.line X.env = pure false := by rfl) : SS X pin (.Expr e pos) (tDrop t) (fX f) := ⟨ps_expr h.pe hs, by
  intro S H ρ σ F E o w q k
  unfold fX at q
  split at q
  · rename_i u ρ1 q1
    cases q
    exact h.rd S H [] ρ σ F _ _ _ w q1 fun v S' H' x w' => k S' H' σ x w'.tl
  · cases q⟩
def fRet (f : Fe) : Fs := fun ρ => match f ρ with
  | some (o, ρ') => some (.rt o ρ')
  | none => none
theorem ss_ret (h : SE X pin e t f) : SS X pin (.Return (some e) pos) (tRet t) (fRet f) := ⟨ps_ret h.pe, by
  intro S H ρ σ F E o w q k
  unfold fRet at q
  split at q
  · rename_i u ρ1 q1
    cases q
    exact h.rd S H [] ρ σ F _ _ _ w q1 fun v S' H' x w' => k v S' H' σ x w'
  · cases q⟩
def fIfS (c : Ft) (f g : Fs) : Fs := fun ρ => match c ρ with
  | some (true, ρ') => f ρ'
  | some (false, ρ') => g ρ'
  | none => none
theorem rs_if (h : RT K pin tA fa) (h1 : RS K pin ts fs) (h2 : RS K pin us gs) : RS K pin (tIfS tA ts us) (fIfS fa fs gs) := by
  intro S H ρ σ F E o w e k
  unfold fIfS at e
  split at e
  · rename_i ρ1 q
    refine h S H [] ρ σ F _ _ _ w q fun S' H' x w' => ?_
    show ts E σ H'
    exact h1 S' H' ρ1 σ F E o w' e (k.le x)
  · rename_i ρ1 q
    refine h S H [] ρ σ F _ _ _ w q fun S' H' x w' => ?_
    show us E σ H'
    exact h2 S' H' ρ1 σ F E o w' e (k.le x)
  · cases e
theorem ss_if {c : Expr} {A B : List Stmt} (h : STs X pin c tA fa) (h1 : SB X pin A ts fs) (h2 : SB X pin B us gs) : SS X pin (.If c A B pos) (tIfS tA ts us) (fIfS fa fs gs) := ⟨ps_if h.pe h1.pe h2.pe, rs_if h.rd h1.rd h2.rd⟩

/-! ### targets -/
abbrev Fg := OD → Rho → Option Rho
def NoPin (pin : List (Option V)) (i : Nat) : Prop := pin[i]? = none ∨ pin[i]? = some none
def Only (sl : List Nat) (σ σ' : L2.St) : Prop := σ'.length = σ.length ∧ ∀ i, i ∉ sl → σ'[i]? = σ[i]?
theorem Only.refl (σ : L2.St) : Only [] σ σ := ⟨rfl, fun _ _ => rfl⟩
theorem Only.trans {a b : List Nat} {σ1 σ2 σ3 : L2.St} (h : Only a σ1 σ2) (h2 : Only b σ2 σ3) : Only (a ++ b) σ1 σ3 := ⟨h2.1.trans h.1, fun i hi => (h2.2 i fun z => hi (List.mem_append_right _ z)).trans (h.2 i fun z => hi (List.mem_append_left _ z))⟩
def RG (K : PySem.W.Frag) (pin : List (Option V)) (sl : List Nat) (g : TG) (fg : Fg) : Prop := ∀ S H T ρ σ F v o Q ρ', Sat K pin S H ((v, o) :: T) ρ σ F → fg o ρ = some ρ' →
  (∀ S' H' σ', Ex S S' → Only sl σ σ' → Sat K pin S' H' T ρ' σ' F → Q σ' H') → g v σ H Q
def gN (i : Nat) : Fg := fun o ρ => if i < ρ.length then some (ρ.set i (some o)) else none
theorem rgt_name {i : Nat} (hp : NoPin pin i) : RG K pin [i] (gName i) (gN i) := by
  intro S H T ρ σ F v o Q ρ' w e k
  unfold gN at e
  split at e
  · rename_i hi
    cases e
    exact k S H _ (ex_refl S) ⟨by simp, fun j hj => List.getElem?_set_ne fun z => hj (by simp [z])⟩ (w.asg hi hp)
  · cases e
def RGs (K : PySem.W.Frag) (pin : List (Option V)) (sl : List Nat) (g : TGs) (fg : List OD → Rho → Option Rho) : Prop := ∀ S H T ρ σ F vs os Q ρ', vs.length = os.length → Sat K pin S H (vs.zip os ++ T) ρ σ F → fg os ρ = some ρ' →
  (∀ S' H' σ', Ex S S' → Only sl σ σ' → Sat K pin S' H' T ρ' σ' F → Q σ' H') → g vs σ H Q
def gsNil : List OD → Rho → Option Rho
  | [], ρ => some ρ
  | _, _ => none
def gsCons (g : Fg) (r : List OD → Rho → Option Rho) : List OD → Rho → Option Rho
  | o :: os, ρ => (match g o ρ with
    | some ρ1 => r os ρ1
    | none => none)
  | [], _ => none
theorem rgs_nil : RGs K pin [] gNil gsNil := by
  intro S H T ρ σ F vs os Q ρ' hl w e k
  cases os with
  | nil =>
    cases vs with
    | nil => cases e; exact ⟨rfl, k S H σ (ex_refl S) (Only.refl σ) w⟩
    | cons _ _ => cases hl
  | cons _ _ => cases e
theorem rgs_cons {g : TG} {gs : TGs} {fg : Fg} {fr : List OD → Rho → Option Rho} {s1 s2 : List Nat} (h1 : RG K pin s1 g fg) (h2 : RGs K pin s2 gs fr) : RGs K pin (s1 ++ s2) (gCons g gs) (gsCons fg fr) := by
  intro S H T ρ σ F vs os Q ρ' hl w e k
  cases os with
  | nil => cases e
  | cons o os =>
    cases vs with
    | nil => cases hl
    | cons v vs =>
      have e' : (match fg o ρ with | some ρ1 => fr os ρ1 | none => none) = some ρ' := e
      split at e'
      · rename_i ρ1 q
        refine ⟨v, vs, rfl, h1 S H (vs.zip os ++ T) ρ σ F v o _ ρ1 w q fun S' H' σ' x on w' => ?_⟩
        exact h2 S' H' T ρ1 σ' F vs os Q ρ' (by simpa using hl) w' e' fun S2 H2 σ2 x2 on2 w2 => k S2 H2 σ2 (ex_trans x x2) (on.trans on2) w2
      · cases e'
/-- a pair and the like is taken apart -/
def gT (n : Nat) (r : List OD → Rho → Option Rho) : Fg := fun o ρ => match o with
  | .st (.tup ds) => if ds.length = n then r (ds.map .st) ρ else none
  | _ => none
theorem sat_pushes {S H : Hp} {T F : List It} {ρ : Rho} {σ : L2.St} {vs : List V} {ds : List D} (w : Sat K pin S H T ρ σ F) (r : RpI K S (vs.zip ds)) : Sat K pin S H (vs.zip (ds.map .st) ++ T) ρ σ F := by
  induction vs generalizing ds with
  | nil => exact w
  | cons v vs ih =>
    cases ds with
    | nil => exact w
    | cons d ds =>
      simp only [List.map_cons, List.zip_cons_cons, List.cons_append] at r ⊢
      exact (ih r.tail).push r.head
theorem rgt_tup {n : Nat} {gs : TGs} {fr : List OD → Rho → Option Rho} {sl : List Nat} (h : RGs K pin sl gs fr) : RG K pin sl (gTup K n gs) (gT n fr) := by
  intro S H T ρ σ F v o Q ρ' w e k
  unfold gT at e
  split at e
  · rename_i ds
    split at e
    · rename_i hn
      cases w.known with
      | tup a b c _ =>
        exact ⟨_, _, rfl, SqT.of (w.le _ _ a), b.trans hn, h S H T ρ σ F _ _ Q ρ' (by simpa using b) (sat_pushes w.tl c) e k⟩
    · cases e
  · cases e
structure SG (X : Cx) (pin : List (Option V)) (sl : List Nat) (tg : Expr) (g : TG) (fg : Fg) : Prop where
  pe : PG X tg g
  rd : RG X.K pin sl g fg
structure SGs (X : Cx) (pin : List (Option V)) (sl : List Nat) (tg : List Expr) (g : TGs) (fg : List OD → Rho → Option Rho) : Prop where
  pe : PGs X tg g
  rd : RGs X.K pin sl g fg
theorem sg_name {i : Nat} {x : Str} (hN : X.N.Nodup) (hp : NoPin pin i) (hi : X.N[i]? = some x := by rfl) (hx : Loc X.env.scope x := by first | exact Or.inl rfl | exact Or.inr rfl) (hf : X.fn x = true ∨ X.env.scope.names.lookup x = some .local := by first | exact .inl rfl | exact .inr rfl | assumption) : SG X pin [i] (.Name x pos) (gName i) (gN i) :=
  ⟨pg_name hN hi hx hf, rgt_name hp⟩
theorem sgs_nil : SGs X pin [] [] gNil gsNil := ⟨pgs_nil, rgs_nil⟩
/-! ### assignments -/
def fAsg (f : Fe) (g : Fg) : Fs := fun ρ => match f ρ with
  | some (o, ρ1) => (match g o ρ1 with
    | some ρ2 => some (.nx ρ2)
    | none => none)
  | none => none
theorem rs_asg {g : TG} {fg : Fg} {sl : List Nat} (h : RE K pin t f) (hg : RG K pin sl g fg) : RS K pin (tAsg t g) (fAsg f fg) := by
  intro S H ρ σ F E o w q k
  unfold fAsg at q
  split at q
  · rename_i u ρ1 q1
    split at q
    · rename_i ρ2 q2
      cases q
      exact h S H [] ρ σ F _ _ _ w q1 fun v S' H' x w' => hg S' H' [] ρ1 σ F v u _ ρ2 w' q2 fun S2 H2 σ2 x2 _ w2 => k S2 H2 σ2 (ex_trans x x2) w2
    · cases q
  · cases q
theorem ss_set {i : Nat} {x : Str} {pos' : Pos} (hN : X.N.Nodup) (hp : NoPin pin i) (h : SE X pin e t f) (hi : X.N[i]? = some x := by rfl) (hx : Loc X.env.scope x := by first | exact Or.inl rfl | exact Or.inr rfl) (hs : swapsWith e (some (.Name x pos')) pos.line X.env = pure false := by rfl) (hf : X.fn x = true ∨ X.env.scope.names.lookup x = some .local := by first | exact .inl rfl | exact .inr rfl | assumption) :
    SS X pin (.Assign [.Name x pos'] e pos) (tAsg t (gName i)) (fAsg f (gN i)) := ⟨ps_set hN hi hx h.pe hs hf, rs_asg h.rd (rgt_name hp)⟩
theorem ss_asg {tg : Expr} {g : TG} {fg : Fg} {sl : List Nat} (h : SE X pin e t f) (hg : SG X pin sl tg g fg) (hs : swapsWithSole [tg] e pos.line X.env = pure false := by rfl) (hw : swappedStores [tg] e X.env = pure none := by rfl)
    (h1 : (assignEach [tg] X.env).map (·.2) = [assign tg X.env] := by rfl) : SS X pin (.Assign [tg] e pos) (tAsg t g) (fAsg f fg) := ⟨ps_asg h.pe hg.pe hs hw h1, rs_asg h.rd hg.rd⟩
/-- a, b = x, y: the pair is made and taken apart; what is owned stays owned -/
def fPar (f : Fa) (g : List OD → Rho → Option Rho) : Fs := fun ρ => match f ρ with
  | some (os, ρ1) => (match g os ρ1 with
    | some ρ2 => some (.nx ρ2)
    | none => none)
  | none => none
theorem rs_parT {tt : TA} {ff : Fa} {n : Nat} {gs : TGs} {fr : List OD → Rho → Option Rho} {sl : List Nat} (h : RA K pin tt ff) (hg : RGs K pin sl gs fr) (hn : ∀ ρ os ρ', ff ρ = some (os, ρ') → os.length = n) (hb : n ≤ 100) : RS K pin (tAsg (tTup tt) (gTup K n gs)) (fPar ff fr) := by
  intro S H ρ σ F E o w q k
  unfold fPar at q
  split at q
  · rename_i os ρ1 q1
    split at q
    · rename_i ρ2 q2
      cases q
      refine h S H [] ρ σ F _ _ _ w q1 fun vs S' H' x hl w' => ?_
      have hn' := hn _ _ _ q1
      refine ⟨Nat.le_trans (by omega : vs.length ≤ 100) (by decide), fun p hp => ⟨p, vs, rfl, SqT.of upd_same, by omega, ?_⟩⟩
      exact hg S' _ [] ρ1 σ F vs os _ ρ2 hl (w'.with (w'.own.alloc hp)) q2 fun S2 H2 σ2 x2 _ w2 => k S2 H2 σ2 (ex_trans x x2) w2
    · cases q
  · cases q
end
end Qy
namespace Qy
open PySem PySem.Spec PyProof.Rows L2
section
variable {X : Cx} {pin : List (Option V)} {K : PySem.W.Frag} {e a b : Expr} {pos p : Pos}
theorem sgs_cons {es : List Expr} {t : TG} {u : TGs} {fg : Fg} {fr : List OD → Rho → Option Rho} {s1 s2 : List Nat} (h1 : SG X pin s1 e t fg) (h2 : SGs X pin s2 es u fr) (hs : (assignEach (e :: es) X.env).map (·.2) = assign e X.env :: (assignEach es X.env).map (·.2) := by rfl) : SGs X pin (s1 ++ s2) (e :: es) (gCons t u) (gsCons fg fr) :=
  ⟨pgs_cons h1.pe h2.pe hs, rgs_cons h1.rd h2.rd⟩
theorem sg_tup {es : List Expr} {k : Nat} {t : TGs} {n : Nat} {fr : List OD → Rho → Option Rho} {sl : List Nat} (hc : X.calm = true) (h : SGs X pin sl es t fr) (hn : (assignEach es X.env).length = n := by rfl) (hst : (assignEach es X.env).findIdx? (·.1) = none := by rfl) (hK : X.K = K := by rfl) : SG X pin sl (.Tuple es k pos) (gTup K n t) (gT n fr) := by
  subst hK; exact ⟨pg_tup hc h.pe hn hst, rgt_tup h.rd⟩
/-- a, b = x, y of names that are not all plain locals -/
theorem ss_parT {es gs : List Expr} {k k2 : Nat} {tt : TA} {ff : Fa} {n : Nat} {t : TGs} {fr : List OD → Rho → Option Rho} {sl : List Nat} {p2 p3 : Pos} (hc : X.calm = true) (h : SA X pin es tt ff) (hg : SGs X pin sl gs t fr) (hl : ∀ ρ os ρ', ff ρ = some (os, ρ') → os.length = n) (hb : n ≤ 100)
    (hn : (assignEach gs X.env).length = n := by rfl) (hst : (assignEach gs X.env).findIdx? (·.1) = none := by rfl) (hs : swapsWithSole [.Tuple gs k p2] (.Tuple es k2 p3) pos.line X.env = pure false := by rfl) (hw : swappedStores [.Tuple gs k p2] (.Tuple es k2 p3) X.env = pure none := by rfl)
    (h1 : (assignEach [.Tuple gs k p2] X.env).map (·.2) = [assign (.Tuple gs k p2) X.env] := by rfl) : SS X pin (.Assign [.Tuple gs k p2] (.Tuple es k2 p3) pos) (tAsg (tTup tt) (gTup X.K n t)) (fPar ff fr) :=
  ⟨ps_asg (pe_tup h.pe) (pg_tup hc hg.pe hn hst) hs hw h1, rs_parT h.rd hg.rd hl hb⟩
theorem len_nil : ∀ ρ os ρ', fNil ρ = some (os, ρ') → os.length = 0 := fun ρ os ρ' h => by cases h; rfl
theorem len_cons {f : Fe} {fr : Fa} {n : Nat} (h : ∀ ρ os ρ', fr ρ = some (os, ρ') → os.length = n) : ∀ ρ os ρ', fCons f fr ρ = some (os, ρ') → os.length = n + 1 := fun ρ os ρ' q => by
  unfold fCons at q
  split at q
  · split at q
    · rename_i q2
      cases q
      simp [h _ _ _ q2]
    · cases q
  · cases q
/-- a, b = x, y of plain locals -/
def gs2 (i j : Nat) : List OD → Rho → Option Rho
  | [o1, o2], ρ => if i < ρ.length ∧ j < ρ.length then some ((ρ.set i (some o1)).set j (some o2)) else none
  | _, _ => none
theorem ss_par2 {i j : Nat} {x y : Str} {ta : TA} {ff : Fa} {px py pt : Pos} {kt k2 pt2} (hc : X.calm = true) (hN : X.N.Nodup) (hp1 : NoPin pin i) (hp2 : NoPin pin j) (hij : i ≠ j) (ha : SA X pin [a, b] ta ff)
    (hi : X.N[i]? = some x := by rfl) (hj : X.N[j]? = some y := by rfl)
    (hx : X.env.scope.names.lookup x = some .local := by rfl) (hy : X.env.scope.names.lookup y = some .local := by rfl)
    (hw : swappedStores [.Tuple [.Name x px, .Name y py] kt pt] (.Tuple [a, b] k2 pt2) X.env = pure (some [x, y]) := by rfl)
    (hs : swapsWithSole [.Tuple [.Name x px, .Name y py] kt pt] (.Tuple [a, b] k2 pt2) pos.line X.env = pure false := by rfl) :
    SS X pin (.Assign [.Tuple [.Name x px, .Name y py] kt pt] (.Tuple [a, b] k2 pt2) pos) (tPar i j ta) (fPar ff (gs2 i j)) := by
  refine ⟨ps_par hc hN hi hj hij hx hy ha.pe hw hs, ?_⟩
  intro S H ρ σ F E o w q k
  unfold fPar at q
  split at q
  · rename_i os ρ1 q1
    split at q
    · rename_i ρ2 q2
      cases q
      refine ha.rd S H [] ρ σ F _ _ _ w q1 fun vs S' H' x hl w' => ?_
      unfold gs2 at q2
      split at q2
      · rename_i o1 o2
        split at q2
        · rename_i hb
          cases q2
          match vs, hl with
          | [v1, v2], _ => exact ⟨v1, v2, rfl, k S' H' _ x ((w'.asg hb.1 hp1).asg (by simpa using hb.2) hp2)⟩
        · cases q2
      · cases q2
    · cases q
  · cases q

/-! ### what is walked -/
abbrev Fi := Rho → Option (List D × Rho)
def RI (K : PySem.W.Frag) (pin : List (Option V)) (wi : TI) (f : Fi) : Prop := ∀ S H T ρ σ F R ds ρ', Sat K pin S H T ρ σ F → f ρ = some (ds, ρ') →
  (∀ J G Y S' H', Ex S S' → Sat K pin S' H' T ρ' σ F → Walk J ds.length G Y → (∀ H2, Ex S' H2 → G H2) →
    (∀ i d H2 x H3 S2 L, ds[i]? = some d → Ex S' S2 → Own K S2 H2 [] L → Y i H2 x H3 → ∃ S3, Ex S2 S3 ∧ Own K S3 H3 [] ((x, .st d) :: L)) → R J H') → wi σ H R
structure SI (X : Cx) (pin : List (Option V)) (tg it : Expr) (wi : TI) (f : Fi) : Prop where
  pe : PI X tg it wi
  rd : RI X.K pin wi f
theorem rp_at {S : Hp} {vs : List V} {ds : List D} (h : RpI K S (vs.zip ds)) {i : Nat} {x : V} {d : D} (hx : vs[i]? = some x) (hd : ds[i]? = some d) : Rp K S x d :=
  RpI.all.mp h (x, d) (List.mem_of_getElem? (by rw [List.getElem?_zip_eq_some]; exact ⟨hx, hd⟩))
theorem PI.or {tg it : Expr} {w1 w2 : TI} (h1 : PI X tg it w1) (h2 : PI X tg it w2) : PI X tg it (fun σ H R => w1 σ H R ∨ w2 σ H R) := ⟨fun pins s σ H R I h => by
  rcases h with h | h
  · exact h1.run pins s σ H R I h
  · exact h2.run pins s σ H R I h⟩
/-- the signs of a text, each a text -/
def signs (z : Str) : List D := z.cps.toList.map fun c => .str ⟨#[c]⟩
/-- a list, a tuple or a text -/
def fItS (f : Fe) : Fi := fun ρ => match f ρ with
  | some (.st (.lst ds), ρ') => some (ds, ρ')
  | some (.st (.tup ds), ρ') => some (ds, ρ')
  | some (.st (.kt ds), ρ') => some (ds, ρ')
  | some (.st (.str z), ρ') => some (signs z, ρ')
  | _ => none
def iSeq (K : PySem.W.Frag) (t : TE) : TI := fun σ H R => iList K t σ H R ∨ (iTup K t σ H R ∨ iStr t σ H R)
theorem ri_seq {t : TE} {f : Fe} (h : RE K pin t f) : RI K pin (iSeq K t) (fItS f) := by
  intro S H T ρ σ F R ds ρ' w e k
  unfold fItS at e
  split at e
  · rename_i ds' ρ1 q
    cases e
    refine .inl (h S H T ρ σ F _ _ _ w q fun v S' H' x w' => ?_)
    cases w'.known with
    | lst a b c q9 =>
      rename_i ad vs
      refine ⟨ad, rfl, ⟨vs, SqL.of (w'.le _ _ a)⟩, k _ _ (YAt vs) S' H' x w'.tl (b ▸ walk_list (K := K)) (fun H2 e2 => SqL.of (e2 _ _ a)) fun i d H2 y H3 S2 L hd e2 o2 hy => ?_⟩
      obtain ⟨rfl, hv⟩ := hy
      exact ⟨S2, ex_refl S2, o2.push ((rp_at c hv hd).mono e2)⟩
  · rename_i ds' ρ1 q
    cases e
    refine .inr (.inl (h S H T ρ σ F _ _ _ w q fun v S' H' x w' => ?_))
    cases w'.known with
    | tup a b c q9 =>
      rename_i ad vs
      refine ⟨ad, rfl, ⟨vs, SqT.of (w'.le _ _ a)⟩, k _ _ (YAt vs) S' H' x w'.tl (b ▸ walk_tup (K := K)) (fun H2 e2 => SqT.of (e2 _ _ a)) fun i d H2 y H3 S2 L hd e2 o2 hy => ?_⟩
      obtain ⟨rfl, hv⟩ := hy
      exact ⟨S2, ex_refl S2, o2.push ((rp_at c hv hd).mono e2)⟩
  · rename_i ds' ρ1 q
    cases e
    refine .inr (.inl (h S H T ρ σ F _ _ _ w q fun v S' H' x w' => ?_))
    cases w'.known with
    | kt a b c q9 =>
      rename_i ad vs
      refine ⟨ad, rfl, ⟨vs, ex_t w'.le a⟩, k _ _ (YAt vs) S' H' x w'.tl (b ▸ walk_tup (K := K)) (fun H2 e2 => ex_t e2 a) fun i d H2 y H3 S2 L hd e2 o2 hy => ?_⟩
      obtain ⟨rfl, hv⟩ := hy
      exact ⟨S2, ex_refl S2, o2.push ((rp_at c hv hd).mono e2)⟩
  · rename_i z ρ1 q
    cases e
    refine .inr (.inr (h S H T ρ σ F _ _ _ w q fun v S' H' x w' => ?_))
    cases w'.known
    have hn : (signs z).length = z.cps.size := by simp [signs]
    refine ⟨z, rfl, k _ _ _ S' H' x w'.tl (hn ▸ walk_str) (fun _ _ => trivial) fun i d H2 y H3 S2 L hd e2 o2 hy => ?_⟩
    obtain ⟨rfl, c, hc, rfl⟩ := hy
    have : d = .str ⟨#[c]⟩ := by
      have hc' : z.cps.toList[i]? = some c := by simpa using hc
      simp only [signs, List.getElem?_map, hc'] at hd
      exact (Option.some.inj hd).symm
    subst this
    exact ⟨S2, ex_refl S2, o2.push (.str .nil)⟩
  · cases e
theorem si_seq {tg : Expr} {t : TE} {f : Fe} (h : SE X pin e t f) (hK : X.K = K := by rfl) : SI X pin tg e (iSeq K t) (fItS f) := by subst hK; exact ⟨PI.or (pi_list h.pe) (PI.or (pi_tup h.pe) (pi_str h.pe)), ri_seq h.rd⟩
/-- range(n), range(m, n) -/
def rngD (lo : Int) (n : Nat) : List D := (List.range n).map fun (i : Nat) => .int (lo + (i : Int))
def fItR1 (f : Fa) : Fi := fun ρ => match f ρ with
  | some ([.st (.int j)], ρ') => if -(2 ^ 62) ≤ j ∧ j < 2 ^ 62 then some (rngD 0 j.toNat, ρ') else none
  | _ => none
def fItR2 (f : Fa) : Fi := fun ρ => match f ρ with
  | some ([.st (.int i), .st (.int j)], ρ') => if -(2 ^ 62) ≤ i ∧ i < 2 ^ 62 ∧ -(2 ^ 62) ≤ j ∧ j < 2 ^ 62 then some (rngD i (j - i).toNat, ρ') else none
  | _ => none
theorem rng_y {lo : Int} {n i : Nat} {d : D} (h : (rngD lo n)[i]? = some d) : d = .int (lo + (i : Int)) := by
  simp only [rngD, List.getElem?_map] at h
  cases q : (List.range n)[i]? with
  | none => rw [q] at h; cases h
  | some k =>
    rw [q] at h
    have : k = i := by
      have := List.getElem?_range (n := n) (i := i) (by
        have := (List.getElem?_eq_some_iff.mp q).1
        simpa using this)
      rw [this] at q
      exact (Option.some.inj q).symm
    subst this
    exact (Option.some.inj h).symm
theorem ri_rng1 {t : TA} {f : Fa} (h : RA K pin t f) : RI K pin (iRng1 t) (fItR1 f) := by
  intro S H T ρ σ F R ds ρ' w e k
  unfold fItR1 at e
  split at e
  · rename_i j ρ1 q
    split at e
    · rename_i hb
      cases e
      refine h S H T ρ σ F _ _ _ w q fun vs S' H' x hl w' => ?_
      match vs, hl with
      | [v], _ =>
        cases (show Rp K S' v (.int j) from w'.known)
        have hn : (rngD 0 j.toNat).length = j.toNat := by simp [rngD]
        refine ⟨j, rfl, hb.1, hb.2, k (Itr 0 j.toNat) (fun _ => True) (YFn fun i => .int (0 + (i : Int))) S' H' x w'.tl (by rw [hn]; exact walk_range) (fun _ _ => trivial) fun i d H2 y H3 S2 L hd e2 o2 hy => ?_⟩
        obtain ⟨rfl, rfl⟩ := hy
        rw [rng_y hd]
        exact ⟨S2, ex_refl S2, o2.push (.int .nil)⟩
    · cases e
  · cases e
theorem ri_rng2 {t : TA} {f : Fa} (h : RA K pin t f) : RI K pin (iRng2 t) (fItR2 f) := by
  intro S H T ρ σ F R ds ρ' w e k
  unfold fItR2 at e
  split at e
  · rename_i i j ρ1 q
    split at e
    · rename_i hb
      cases e
      refine h S H T ρ σ F _ _ _ w q fun vs S' H' x hl w' => ?_
      match vs, hl with
      | [v, u], _ =>
        have w'' : Sat K pin S' H' ((v, .st (.int i)) :: (u, .st (.int j)) :: T) ρ' σ F := w'
        cases (show Rp K S' v (.int i) from w''.known)
        cases (show Rp K S' u (.int j) from w''.tl.known)
        have hn : (rngD i (j - i).toNat).length = (j - i).toNat := by simp [rngD]
        refine ⟨i, j, rfl, hb, k (Itr i (j - i).toNat) (fun _ => True) (YFn fun n => .int (i + (n : Int))) S' H' x w''.tl.tl (by rw [hn]; exact walk_range) (fun _ _ => trivial) fun i d H2 y H3 S2 L hd e2 o2 hy => ?_⟩
        obtain ⟨rfl, rfl⟩ := hy
        rw [rng_y hd]
        exact ⟨S2, ex_refl S2, o2.push (.int .nil)⟩
    · cases e
  · cases e
theorem si_rng1 {tg : Expr} {t : TA} {f : Fa} (hm : X.mg "range" = none) (h : SA X pin [a] t f) (hg : Gl X "range" := by rfl) (hs : starEach [a] X.env = [(false, eval a X.env)] := by rfl) : SI X pin tg (.Call (.Name "range" p) [a] [] pos) (iRng1 t) (fItR1 f) := ⟨pi_range1 hg hm h.pe hs, ri_rng1 h.rd⟩
theorem si_rng2 {tg : Expr} {t : TA} {f : Fa} (hm : X.mg "range" = none) (h : SA X pin [a, b] t f) (hg : Gl X "range" := by rfl) (hs : starEach [a, b] X.env = [(false, eval a X.env), (false, eval b X.env)] := by rfl) (hs2 : starEach [b] X.env = [(false, eval b X.env)] := by rfl) : SI X pin tg (.Call (.Name "range" p) [a, b] [] pos) (iRng2 t) (fItR2 f) := ⟨pi_range2 hg hm h.pe hs hs2, ri_rng2 h.rd⟩

/-! ### for, while -/
def loopF (tg : Fg) (body : Fs) : List D → Rho → Option Out
  | [], ρ => some (.nx ρ)
  | d :: ds, ρ => match tg (.st d) ρ with
    | none => none
    | some ρ1 => match body ρ1 with
      | some (.nx ρ2) => loopF tg body ds ρ2
      | some (.ct ρ2) => loopF tg body ds ρ2
      | some (.bk ρ2) => some (.nx ρ2)
      | some (.rt o ρ2) => some (.rt o ρ2)
      | none => none
def fFor (it : Fi) (tg : Fg) (body : Fs) : Fs := fun ρ => match it ρ with
  | some (ds, ρ') => loopF tg body ds ρ'
  | none => none
theorem rs_for {wi : TI} {fi : Fi} {g : TG} {fg : Fg} {sl : List Nat} {tb : TS} {fb : Fs} (hi : RI K pin wi fi) (hg : RG K pin sl g fg) (hb : RS K pin tb fb) : RS K pin (tFor wi g tb) (fFor fi fg fb) := by
  intro S H ρ σ F E o w e k
  unfold fFor at e
  split at e
  · rename_i ds ρ1 q
    refine hi S H [] ρ σ F _ ds ρ1 w q fun J G Y S' H' x w' W hG hY => ?_
    refine for_it W (fun i σ H => ∃ S2 ρ2, Ex S' S2 ∧ Sat K pin S2 H [] ρ2 σ F ∧ loopF fg fb (ds.drop i) ρ2 = some o ∨ False) ⟨S', ρ1, .inl ⟨ex_refl S', w', by simpa using e⟩⟩ ?_ ?_ ?_
    · rintro i σ H _ ⟨S2, ρ2, z⟩
      rcases z with ⟨e2, w2, _⟩ | z
      · exact hG H (ex_trans e2 w2.le)
      · exact z.elim
    · rintro i y σ H H2 hi' ⟨S2, ρ2, z⟩ hy
      rcases z with ⟨e2, w2, l2⟩ | z
      · obtain ⟨d, hd⟩ : ∃ d, ds[i]? = some d := ⟨ds[i], by simp [hi']⟩
        have hdr : ds.drop i = d :: ds.drop (i + 1) := by
          rw [List.drop_eq_getElem_cons hi']
          congr 1
          have := List.getElem?_eq_getElem hi'
          rw [this] at hd
          exact Option.some.inj hd
        rw [hdr] at l2
        obtain ⟨S3, e3, o3⟩ := hY i d H y H2 S2 _ hd e2 w2.own hy
        have w3 : Sat K pin S3 H2 [(y, .st d)] ρ2 σ F := w2.with o3
        unfold loopF at l2
        split at l2
        · cases l2
        · rename_i ρ3 q3
          refine hg S3 H2 [] ρ2 σ F y (.st d) _ ρ3 w3 q3 fun S4 H4 σ4 e4 _ w4 => ?_
          have e04 : Ex S' S4 := ex_trans e2 (ex_trans e3 e4)
          split at l2
          · rename_i ρ5 q5
            exact hb S4 H4 ρ3 σ4 F _ _ w4 q5 fun S5 H5 σ5 e5 w5 => ⟨S5, ρ5, .inl ⟨ex_trans e04 e5, w5, l2⟩⟩
          · rename_i ρ5 q5
            exact hb S4 H4 ρ3 σ4 F _ _ w4 q5 fun S5 H5 σ5 e5 w5 => ⟨S5, ρ5, .inl ⟨ex_trans e04 e5, w5, l2⟩⟩
          · rename_i ρ5 q5
            cases l2
            exact hb S4 H4 ρ3 σ4 F _ _ w4 q5 fun S5 H5 σ5 e5 w5 => k S5 H5 σ5 (ex_trans x (ex_trans e04 e5)) w5
          · rename_i u ρ5 q5
            cases l2
            exact hb S4 H4 ρ3 σ4 F _ _ w4 q5 fun v S5 H5 σ5 e5 w5 => k v S5 H5 σ5 (ex_trans x (ex_trans e04 e5)) w5
          · cases l2
      · exact z.elim
    · rintro σ H ⟨S2, ρ2, z⟩
      rcases z with ⟨e2, w2, l2⟩ | z
      · rw [List.drop_length] at l2
        cases l2
        exact k S2 H σ (ex_trans x e2) w2
      · exact z.elim
  · cases e
theorem ss_for {tg it : Expr} {body : List Stmt} {wi : TI} {fi : Fi} {g : TG} {fg : Fg} {sl : List Nat} {tb : TS} {fb : Fs} (hp : PassesOwn (model X.prog X.w) X.A X.env X.xe) (hc : X.calm = true) (hi : SI X pin tg it wi fi) (hg : SG X pin sl tg g fg) (hb : SB X pin body tb fb)
    (hs : ∀ x, foldedSetIterable it X.env x = pure x := by intro _; rfl) : SS X pin (.For tg it body [] pos) (tFor wi g tb) (fFor fi fg fb) := ⟨ps_for hp hc hi.pe hg.pe hb.pe hs, rs_for hi.rd hg.rd hb.rd⟩
def loopW (c : Ft) (body : Fs) : Nat → Rho → Option Out
  | 0, _ => none
  | n + 1, ρ => match c ρ with
    | none => none
    | some (false, ρ1) => some (.nx ρ1)
    | some (true, ρ1) => match body ρ1 with
      | some (.nx ρ2) => loopW c body n ρ2
      | some (.ct ρ2) => loopW c body n ρ2
      | some (.bk ρ2) => some (.nx ρ2)
      | some (.rt o ρ2) => some (.rt o ρ2)
      | none => none
theorem rs_while {tc : TT} {fc : Ft} {tb : TS} {fb : Fs} {n : Nat} (hc : RT K pin tc fc) (hb : RS K pin tb fb) : RS K pin (tWhile tc tb) (fun ρ => loopW fc fb n ρ) := by
  intro S H ρ σ F E o w e k
  refine ⟨fun m σ H => ∃ S2 ρ2, Ex S S2 ∧ Sat K pin S2 H [] ρ2 σ F ∧ loopW fc fb m ρ2 = some o, ⟨n, S, ρ, ex_refl S, w, e⟩, ?_⟩
  rintro m σ H ⟨S2, ρ2, e2, w2, l2⟩
  cases m with
  | zero => cases l2
  | succ m =>
    unfold loopW at l2
    split at l2
    · cases l2
    · rename_i ρ3 q3
      cases l2
      refine hc S2 H [] ρ2 σ F _ _ _ w2 q3 fun S3 H3 e3 w3 => ?_
      show E.nx σ H3
      exact k S3 H3 σ (ex_trans e2 e3) w3
    · rename_i ρ3 q3
      refine hc S2 H [] ρ2 σ F _ _ _ w2 q3 fun S3 H3 e3 w3 => ?_
      show ∃ N : L2.St → Hp → Prop, (∀ σ' H', N σ' H' → ∃ m', m' < m + 1 ∧ _) ∧ _
      refine ⟨fun σ H => ∃ S2 ρ2, Ex S S2 ∧ Sat K pin S2 H [] ρ2 σ F ∧ loopW fc fb m ρ2 = some o, fun σ' H' z => ⟨m, Nat.lt_succ_self m, z⟩, ?_⟩
      have e03 := ex_trans e2 e3
      split at l2
      · rename_i ρ5 q5
        exact hb S3 H3 ρ3 σ F _ _ w3 q5 fun S5 H5 σ5 e5 w5 => ⟨S5, ρ5, ex_trans e03 e5, w5, l2⟩
      · rename_i ρ5 q5
        exact hb S3 H3 ρ3 σ F _ _ w3 q5 fun S5 H5 σ5 e5 w5 => ⟨S5, ρ5, ex_trans e03 e5, w5, l2⟩
      · rename_i ρ5 q5
        cases l2
        exact hb S3 H3 ρ3 σ F _ _ w3 q5 fun S5 H5 σ5 e5 w5 => k S5 H5 σ5 (ex_trans e03 e5) w5
      · rename_i u ρ5 q5
        cases l2
        exact hb S3 H3 ρ3 σ F _ _ w3 q5 fun v S5 H5 σ5 e5 w5 => k v S5 H5 σ5 (ex_trans e03 e5) w5
      · cases l2
theorem ss_while {c : Expr} {body : List Stmt} {tc : TT} {fc : Ft} {tb : TS} {fb : Fs} (n : Nat) (hp : PassesOwn (model X.prog X.w) X.A X.env X.xe) (hc : STs X pin c tc fc) (hb : SB X pin body tb fb) : SS X pin (.While c body [] pos) (tWhile tc tb) (fun ρ => loopW fc fb n ρ) := ⟨ps_while hp hc.pe hb.pe, rs_while hc.rd hb.rd⟩
end
end Qy
set_option Elab.async false
set_option linter.all false
set_option maxRecDepth 100000
set_option maxHeartbeats 400000
namespace Qy
open PySem PySem.Spec PyProof.Rows L2
section
variable {X : Cx} {pin : List (Option V)} {K : PySem.W.Frag} {e a b : Expr} {pos p : Pos}
/-- the own names of a block forgotten -/
def wipeR (ρ : Rho) : List Nat → Rho
  | [] => ρ
  | v :: vs => (wipeR ρ vs).set v none
theorem its_congr : ∀ (ρ : Rho) (σ σ' : L2.St), (∀ (i : Nat) o, ρ[i]? = some (some o) → σ'[i]? = σ[i]?) → σ'.length = σ.length → its ρ σ' = its ρ σ
  | [], σ, σ', _, _ => by cases σ <;> cases σ' <;> rfl
  | a :: ρ, [], σ', h, hl => by
    have : σ' = [] := by simpa using hl
    subst this; rfl
  | a :: ρ, b :: σ, [], h, hl => by simp at hl
  | none :: ρ, b :: σ, c :: σ', h, hl => by
    have := its_congr ρ σ σ' (fun i o q => by simpa using h (i + 1) o (by simpa using q)) (by simpa using hl)
    simpa [its] using this
  | some o :: ρ, b :: σ, c :: σ', h, hl => by
    have h0 : c = b := by simpa using h 0 o (by simp)
    subst h0
    have := its_congr ρ σ σ' (fun i o q => by simpa using h (i + 1) o (by simpa using q)) (by simpa using hl)
    cases c <;> simpa [its] using this
variable {S H : Hp} {T F : List It} {ρ : Rho} {σ σ' : L2.St}
theorem Sat.slots (w : Sat K pin S H T ρ σ F) (h : ∀ (i : Nat) o, ρ[i]? = some (some o) → σ'[i]? = σ[i]?) (hl : σ'.length = σ.length) (hp : ∀ (i : Nat) v, pin[i]? = some (some v) → σ'[i]? = some (some v)) : Sat K pin S H T ρ σ' F :=
  ⟨by rw [its_congr ρ σ σ' h hl]; exact w.own, fun i o q => by rw [h i o q]; exact w.wf i o q, w.len.trans hl.symm, hp⟩
theorem wipeR_get {vs : List Nat} {i : Nat} {o : OD} : (wipeR ρ vs)[i]? = some (some o) → ρ[i]? = some (some o) ∧ i ∉ vs := by
  induction vs with
  | nil => exact fun h => ⟨h, by simp⟩
  | cons v vs ih =>
    intro h
    unfold wipeR at h
    by_cases e : v = i
    · subst e
      by_cases hl : v < (wipeR ρ vs).length
      · rw [List.getElem?_set_self hl] at h; cases h
      · rw [List.getElem?_eq_none (by simpa using hl)] at h; cases h
    · rw [List.getElem?_set_ne e] at h
      obtain ⟨h1, h2⟩ := ih h
      exact ⟨h1, fun z => by rcases List.mem_cons.mp z with z | z; exact e z.symm; exact h2 z⟩
theorem Sat.wipeR (w : Sat K pin S H T ρ σ F) : ∀ vs : List Nat, Sat K pin S H T (wipeR ρ vs) σ F
  | [] => w
  | v :: vs => (Sat.wipeR w vs).forget
theorem wipe_get {vs : List Nat} {i : Nat} (h : i ∉ vs) : (wipe σ vs)[i]? = σ[i]? := by
  induction vs with
  | nil => rfl
  | cons v vs ih =>
    unfold wipe
    rw [List.getElem?_set_ne (fun z => h (by simp [z]))]
    exact ih fun z => h (List.mem_cons_of_mem _ z)
theorem pin_out {vs : List Nat} (hp : ∀ i ∈ vs, NoPin pin i) {i : Nat} {v : V} (h : pin[i]? = some (some v)) : i ∉ vs := fun z => by
  rcases hp i z with q | q
  · rw [q] at h; cases h
  · rw [q] at h; cases h
/-- into a block and out of it -/
theorem Sat.into {vs : List Nat} (w : Sat K pin S H T ρ σ F) (hp : ∀ i ∈ vs, NoPin pin i) : Sat K pin S H T (Qy.wipeR ρ vs) (wipe σ vs) F :=
  (w.wipeR vs).slots (fun i o h => wipe_get (wipeR_get h).2) (wipe_length σ vs) fun i v h => by rw [wipe_get (pin_out hp h)]; exact w.pin i v h
theorem wipe_only {vs sl : List Nat} {σ2 : L2.St} (h : Only sl (wipe σ vs) σ2) (hs : ∀ i ∈ sl, i ∈ vs) : wipe σ2 vs = wipe σ vs := by
  have key : ∀ (us : List Nat) (s : L2.St) (i : Nat), i ∈ us → i < s.length → (wipe s us)[i]? = some none := by
    intro us
    induction us with
    | nil => intro s i hi; cases hi
    | cons v us ih =>
      intro s i hi hl
      unfold wipe
      by_cases e : v = i
      · subst e; rw [List.getElem?_set_self (by rw [wipe_length]; exact hl)]
      · rw [List.getElem?_set_ne e]
        rcases List.mem_cons.mp hi with z | z
        · exact absurd z.symm e
        · exact ih s i z hl
  apply List.ext_getElem?
  intro i
  by_cases hi : i ∈ vs
  · by_cases hl : i < σ.length
    · rw [key vs σ2 i hi (by rw [h.1, wipe_length]; exact hl), key vs σ i hi hl]
    · rw [List.getElem?_eq_none (by rw [wipe_length, h.1, wipe_length]; omega), List.getElem?_eq_none (by rw [wipe_length]; omega)]
  · rw [wipe_get hi, h.2 i fun z => hi (hs i z)]
theorem Sat.outof {vs : List Nat} {s : L2.St} (w : Sat K pin S H T ρ s F) (hw : wipe s vs = wipe σ vs) (hp : ∀ i ∈ vs, NoPin pin i) : Sat K pin S H T (Qy.wipeR ρ vs) (wipe σ vs) F := by
  have := w.into (vs := vs) hp
  rw [hw] at this
  exact this
theorem Sat.leave {vs : List Nat} (w : Sat K pin S H T (Qy.wipeR ρ vs) (wipe σ vs) F) (hp : ∀ (i : Nat) v, pin[i]? = some (some v) → σ[i]? = some (some v)) : Sat K pin S H T (Qy.wipeR ρ vs) σ F :=
  w.slots (fun i o h => (wipe_get (wipeR_get h).2).symm) (wipe_length σ vs).symm hp
/-- an item goes to the end of a list -/
theorem Own.app {p : Addr} {os : List OD} {v : V} {o : OD} {L : List It} (h : Own K S H [] ((v, o) :: (.ref p, .ol os) :: L)) : ∃ vs, H p = some (.lst vs) ∧ vs.length = os.length ∧ Own K S (upd H p (.lst (vs ++ [v]))) [] ((.ref p, .ol (os ++ [o])) :: L) := by
  obtain ⟨vs, h1, h2, h3, h4⟩ := (h.perm (.swap _ _ _)).open_
  refine ⟨vs, h1, h2, Own.close (h4.perm ?_) (by simp [h2]) h3⟩
  rw [zip_app h2]
  simp

/-! ### the tests of a comprehension -/
structure STL (X : Cx) (pin : List (Option V)) (es : List Expr) (t : TT) (f : Ft) : Prop where
  pe : PTs X es t
  rd : RT X.K pin t f
def fYes : Ft := fun ρ => some (true, ρ)
theorem stl_nil : STL X pin [] tYes fYes := ⟨pts_nil, by
  intro S H T ρ σ F Q b ρ' w e k
  cases e
  exact k S H (ex_refl S) w⟩
theorem stl_one {t : TT} {f : Ft} (h : STs X pin e t f) : STL X pin [e] t f := ⟨pts_one h.pe, h.rd⟩

/-! ### list comprehensions -/
def compL (own : List Nat) (tg : Fg) (tt : Ft) (te : Fe) : List D → Rho → List OD → Option (List OD × Rho)
  | [], ρ, acc => some (acc, ρ)
  | d :: ds, ρ, acc => match tg (.st d) ρ with
    | none => none
    | some ρ1 => match tt ρ1 with
      | none => none
      | some (false, ρ2) => compL own tg tt te ds (wipeR ρ2 own) acc
      | some (true, ρ2) => match te ρ2 with
        | none => none
        | some (o, ρ3) => if acc.length ≤ big then compL own tg tt te ds (wipeR ρ3 own) (acc ++ [o]) else none
def fLc (own : List Nat) (it : Fi) (tg : Fg) (tt : Ft) (te : Fe) : Fe := fun ρ => match it ρ with
  | none => none
  | some (ds, ρ1) => match compL own tg tt te ds (wipeR ρ1 own) [] with
    | none => none
    | some (acc, ρ2) => some (.ol acc, wipeR ρ2 own)
theorem re_lc {wi : TI} {fi : Fi} {g : TG} {fg : Fg} {sl own : List Nat} {tt : TT} {ft : Ft} {te : TE} {fe : Fe} (hi : RI K pin wi fi) (hg : RG K pin sl g fg) (ht : RT K pin tt ft) (he : RE K pin te fe) (hs : ∀ i ∈ sl, i ∈ own) (hp : ∀ i ∈ own, NoPin pin i) :
    RE K pin (tLc wi g tt te own) (fLc own fi fg ft fe) := by
  intro S H T ρ σ F Q od ρ' w e k
  unfold fLc at e
  split at e
  · cases e
  · rename_i ds ρ1 q
    split at e
    · cases e
    · rename_i acc ρ2 q2
      cases e
      refine hi S H T ρ σ F _ ds ρ1 w q fun J G Y S' H' x w' W hG hY D hD => ?_
      have pin0 := w'.pin
      refine lc_it W (fun i H => ∃ S2 ρ3 ac, Ex S' S2 ∧ Sat K pin S2 H ((.ref D, .ol ac) :: T) ρ3 (wipe σ own) F ∧ compL own fg ft fe (ds.drop i) ρ3 ac = some (acc, ρ2)) ?_ ?_ ?_ ?_
      · refine ⟨S', wipeR ρ1 own, [], ex_refl S', ?_, by simpa using q2⟩
        have w1 := w'.into (vs := own) hp
        exact w1.with (Own.newL (vs := []) (os := []) w1.own rfl hD)
      · rintro i H _ ⟨S2, ρ3, ac, e2, w2, _⟩
        exact hG H (ex_trans e2 w2.le)
      · rintro i y H H2 hi' ⟨S2, ρ3, ac, e2, w2, l2⟩ hy
        obtain ⟨d, hd⟩ : ∃ d, ds[i]? = some d := ⟨ds[i], by simp [hi']⟩
        have hdr : ds.drop i = d :: ds.drop (i + 1) := by
          rw [List.drop_eq_getElem_cons hi']
          congr 1
          have := List.getElem?_eq_getElem hi'
          rw [this] at hd
          exact Option.some.inj hd
        rw [hdr] at l2
        obtain ⟨S3, e3, o3⟩ := hY i d H y H2 S2 _ hd e2 w2.own hy
        have w3 : Sat K pin S3 H2 ((y, .st d) :: (.ref D, .ol ac) :: T) ρ3 (wipe σ own) F := w2.with o3
        unfold compL at l2
        split at l2
        · cases l2
        · rename_i ρ4 q4
          refine hg S3 H2 _ ρ3 (wipe σ own) F y (.st d) _ ρ4 w3 q4 fun S4 H4 σ4 e4 on w4 => ?_
          have hw := wipe_only on hs
          refine ⟨hw, ?_⟩
          have e04 : Ex S' S4 := ex_trans e2 (ex_trans e3 e4)
          split at l2
          · cases l2
          · rename_i ρ5 q5
            refine ht S4 H4 _ ρ4 σ4 F _ _ _ w4 q5 fun S5 H5 e5 w5 => ?_
            exact ⟨S5, wipeR ρ5 own, ac, ex_trans e04 e5, w5.outof hw hp, l2⟩
          · rename_i ρ5 q5
            refine ht S4 H4 _ ρ4 σ4 F _ _ _ w4 q5 fun S5 H5 e5 w5 => ?_
            show te σ4 H5 _
            split at l2
            · cases l2
            · rename_i o ρ6 q6
              split at l2
              · rename_i hb
                refine he S5 H5 _ ρ5 σ4 F _ _ _ w5 q6 fun v S6 H6 e6 w6 => ?_
                obtain ⟨vs, h1, h2, h3⟩ := w6.own.app
                refine ⟨vs, h1, by rw [h2]; exact big_lt hb, S6, wipeR ρ6 own, ac ++ [o], ex_trans e04 (ex_trans e5 e6), ?_, l2⟩
                exact (w6.with h3).outof hw hp
              · cases l2
      · rintro H ⟨S2, ρ3, ac, e2, w2, l2⟩
        rw [List.drop_length] at l2
        cases l2
        have w3 : Sat K pin S2 H ((.ref D, .ol acc) :: T) (wipeR ρ2 own) (wipe σ own) F := by
          have := w2.into (vs := own) hp
          have hh : wipe (wipe σ own) own = wipe σ own := wipe_only (sl := []) (Only.refl _) (fun _ z => nomatch z)
          rw [hh] at this
          exact this
        exact k _ S2 H (ex_trans x e2) (w3.leave pin0)
theorem se_lc {elt tg iter : Expr} {ifs : List Expr} {scope : Scope} {own : List (Str × Nat)} {wi : TI} {fi : Fi} {g : TG} {fg : Fg} {sl : List Nat} {tt : TT} {ft : Ft} {te : TE} {fe : Fe} (hc : X.calm = true) (hN : X.N.Nodup) (hi : SI X pin tg iter wi fi) (ok : BlkOk X.N X.env.scope scope own)
    (hp : ∀ i ∈ own.map (·.2), NoPin pin i) (hsl : ∀ i ∈ sl, i ∈ own.map (·.2))
    (hg : ∀ (s : Shared) (H : Hp) (C : Addr) (cl : List (Str × Addr)) (fp : List Addr), SG (X.blk s H scope (compEnvC scope cl C X.env) fp) pin sl tg g fg) (ht : ∀ (s : Shared) (H : Hp) (C : Addr) (cl : List (Str × Addr)) (fp : List Addr), STL (X.blk s H scope (compEnvC scope cl C X.env) fp) pin ifs tt ft)
    (he : ∀ (s : Shared) (H : Hp) (C : Addr) (cl : List (Str × Addr)) (fp : List Addr), SE (X.blk s H scope (compEnvC scope cl C X.env) fp) pin elt te fe) (hs : ∀ x, foldedSetIterable iter X.env x = pure x := by intro _; rfl) :
    SE X pin (.ListComp elt [⟨tg, iter, ifs, 0⟩] scope pos) (tLc wi g tt te (own.map (·.2))) (fLc (own.map (·.2)) fi fg ft fe) :=
  ⟨pe_lc hc hN hi.pe ok (fun s H C cl fp => (hg s H C cl fp).pe) (fun s H C cl fp => (ht s H C cl fp).pe) (fun s H C cl fp => (he s H C cl fp).pe) hs,
   re_lc hi.rd (hg X.s_0 X.H_0 0 [] []).rd (ht X.s_0 X.H_0 0 [] []).rd (he X.s_0 X.H_0 0 [] []).rd hsl hp⟩
theorem ss_setLc {i : Nat} {y : Str} {py : Pos} {elt tg iter : Expr} {ifs : List Expr} {scope : Scope} {own : List (Str × Nat)} {spos : Pos} {wi : TI} {fi : Fi} {g : TG} {fg : Fg} {sl : List Nat} {tt : TT} {ft : Ft} {te : TE} {fe : Fe} (hc : X.calm = true) (hN : X.N.Nodup) (hpi : NoPin pin i) (hi : SI X pin tg iter wi fi) (ok : BlkOk X.N X.env.scope scope own)
    (hp : ∀ i ∈ own.map (·.2), NoPin pin i) (hsl : ∀ i ∈ sl, i ∈ own.map (·.2))
    (hg : ∀ (s : Shared) (H : Hp) (C : Addr) (cl : List (Str × Addr)) (fp : List Addr), SG (X.blk s H scope (compEnvC scope cl C X.env) fp) pin sl tg g fg) (ht : ∀ (s : Shared) (H : Hp) (C : Addr) (cl : List (Str × Addr)) (fp : List Addr), STL (X.blk s H scope (compEnvC scope cl C X.env) fp) pin ifs tt ft)
    (he : ∀ (s : Shared) (H : Hp) (C : Addr) (cl : List (Str × Addr)) (fp : List Addr), SE (X.blk s H scope (compEnvC scope cl C X.env) fp) pin elt te fe)
    (hy : X.N[i]? = some y := by rfl) (hyl : X.env.scope.names.lookup y = some .local := by rfl) (hsw : swapsWith (.ListComp elt [⟨tg, iter, ifs, 0⟩] scope pos) (some (.Name y py)) spos.line X.env = pure true := by exact sw_true rfl rfl rfl (by decide +kernel)) (hs : ∀ x, foldedSetIterable iter X.env x = pure x := by intro _; rfl) :
    SS X pin (.Assign [.Name y py] (.ListComp elt [⟨tg, iter, ifs, 0⟩] scope pos) spos) (tAsg (tLc wi g tt te (own.map (·.2))) (gName i)) (fAsg (fLc (own.map (·.2)) fi fg ft fe) (gN i)) :=
  ⟨ps_setLc hc hN hy hyl hsw hi.pe ok (fun s H C cl fp => (hg s H C cl fp).pe) (fun s H C cl fp => (ht s H C cl fp).pe) (fun s H C cl fp => (he s H C cl fp).pe) hs,
   rs_asg (re_lc hi.rd (hg X.s_0 X.H_0 0 [] []).rd (ht X.s_0 X.H_0 0 [] []).rd (he X.s_0 X.H_0 0 [] []).rd hsl hp) (rgt_name hpi)⟩
end
end Qy
set_option Elab.async false
set_option linter.all false
set_option maxRecDepth 100000
set_option maxHeartbeats 400000
/-! A def's promise where no repr is under way around it (guards told): for the reprs of lists. -/
namespace Qy
open PySem PySem.Spec PyProof.Rows L2
structure FnG (P : Program) (w : World) (K : PySem.W.Frag) (mg : Str → Option Value) (base : Heap) (CX : CXT) (k : Nat) (f : Addr) (fd : FuncData) (ps : List Str) (sp : Sp) : Prop where
  len : ∀ vs H Q E, sp vs H Q E → vs.length = ps.length
  run : ∀ (A : Around) (out : List Env) (z : Shared) (H : Hp) (args : Args) (us : List Value) (vs : List V) (Q : VK) (E : XK), A.guards = some [] → Room k A → Env0 P w K mg base A out z H → BindsTo z fd args (ps.zip us) → Vals vs us → sp vs H Q E → codeAny (model P w) A (.call (.ref f) args) (CR CX out P w H z Q E) z
section
variable {P : Program} {w : World} {K : PySem.W.Frag} {mg : Str → Option Value} {base : Heap} {CX : CXT}
theorem fnG_of {k : Nat} {f : Addr} {nm qual : Str} {pa : Arguments} {body : List Stmt} {sc : Scope} {dV kV doc pm cdv ct oc : Value} {an od : Option Addr} {osl : Array (Option Value)} {N ps : List Str} {sp : Sp}
    (lk : K.lookup f = some ⟨oc, od, .func (PySem.W.fnOf nm qual pa body sc dV kV doc pm an cdv ct), osl⟩) (hcd : PySem.W.codeIn K cdv qual = true) (Sc : FnScope N ps sc) (len : ∀ vs H Q E, sp vs H Q E → vs.length = ps.length)
    (hb0 : ∀ (A : Around) (out : List Env) (z : Shared) (H : Hp) (vs : List V) (Q : VK) (E : XK), A.guards = some [] → Room k (A.deeper (envOfC qual sc z.heap.objs.size f cdv)) → sp vs H Q E →
      ∃ t, PSs (cxOf CX P w K mg base N qual sc f cdv A out z H E) body t ∧ t { nx := fun _ G => Q .non G, rt := Q } (L2.start N vs) H) :
    FnG P w K mg base CX (k + 1) f (PySem.W.fnOf nm qual pa body sc dV kV doc pm an cdv ct) ps sp := by
  refine ⟨len, fun A out z H args us vs Q E gd hr e0 hb r hsp => ?_⟩
  have old : ∀ b o, base.get? b = some o → z.heap.get? b = some o := fun b o e => (e0.bs b o e).1
  have KX : K.In z.heap := e0.mod.kin.keeps old
  have kinds : ∀ y ∈ ps.zip us, sc.names.lookup y.1 = some .local ∨ (sc.names.lookup y.1 = some .cell ∧ ((cellsFrom (z.heap.objs.size + 1) sc.names []).lookup y.1).isSome = true) := fun ⟨n, v⟩ hy =>
    (Sc.par n (List.of_mem_zip hy).1).elim .inl fun q => .inr ⟨q, PySem.W.cellsFrom_some _ _ _ (.inl q)⟩
  refine codeAny_call_function hr.depth (KX _ _ lk) rfl Sc.co Sc.gen rfl (PySem.W.codeRec_of KX hcd) (hb _ _ _ _ (wpAny_newFunctionEnv_cells Sc.kind kinds fun env he z1 x => ?_))
  subst he
  refine ⟨(e0.mod.nolimit.keeps old).keeps x.toInCall.keep, codeAny_func ?_⟩
  obtain ⟨t, ht, hq⟩ := hb0 A out z H vs Q E gd (hr.deeper _) hsp
  have I : Inv (cxOf CX P w K mg base N qual sc f cdv A out z H E) [] (L2.start N vs) H z1 := inv_start Sc hr.hd e0 (len _ _ _ _ hsp) r x
  refine wpAny_mono (ht.run [] z1 (L2.start N vs) H _ I hq) (fun fl z2 hs => ?_) fun e z2 hs => hs
  cases fl with
  | ret u => obtain ⟨v, s', G, J, rv, q⟩ := hs; exact ⟨v, G, J.os, J.bare, J.base, J.hok, rv, q⟩
  | next => obtain ⟨s', G, J, q⟩ := hs; exact ⟨V.non, G, J.os, J.bare, J.base, J.hok, rfl, q⟩
  | brk => obtain ⟨_, _, _, q⟩ := hs; exact q.elim
  | cont => obtain ⟨_, _, _, q⟩ := hs; exact q.elim
end
section
variable {X : Cx} {CX : CXT} {k : Nat} {f : Addr} {fd : FuncData} {ps ks : List Str} {sp : Sp} {E : XK} {x : Str} {p pos : Pos} {e : Expr} {es : List Expr} {kws : List Keyword} {t tk : TA} {pins : List (Addr × Obj)} {σ : L2.St} {H : Hp} {z : Shared} {Q : VK}
theorem run_g {args : Args} {us : List Value} {vs : List V} (F : FnG X.prog X.w X.K X.mg X.base CX k f fd ps sp) (gd : X.A.guards = some []) (hr : Room k X.A) (hx : Passes CX X E) (I : Inv X pins σ H z) (hb : BindsTo z fd args (ps.zip us)) (r : Vals vs us) (h : sp vs H Q E) :
    codeAny (model X.prog X.w) X.A (.call (.ref f) args) (fun rr z2 => match rr with | .ok (.ret u) => EP X pins σ Q u z2 | .ok _ => False | .error er => X.xe er z2) z := by
  refine codeAny_mono (F.run X.A X.stack z H args us vs Q E gd hr I.env0 hb r h) fun rr z2 hq => ?_
  cases rr with
  | error er => exact hx pins σ H z er z2 I hq
  | ok fl => cases fl with
    | ret u => exact I.after hq
    | next => exact hq.elim
    | brk => exact hq.elim
    | cont => exact hq.elim
theorem wp_g {g : Addr} {us : List Value} {kw : List (Str × Value)} (h : codeAny (model X.prog X.w) X.A (.call (.ref g) ⟨us, kw⟩) (fun rr z2 => match rr with | .ok (.ret u) => EP X pins σ Q u z2 | .ok _ => False | .error er => X.xe er z2) z) :
    wpAny (model X.prog X.w) X.A (call (.ref g) us kw) (EP X pins σ Q) X.xe z := wpAny_call (codeAny_mono h fun rr z2 q => by
  cases rr with
  | error er => exact q
  | ok fl => cases fl with
    | ret u => exact q
    | next => exact q.elim
    | brk => exact q.elim
    | cont => exact q.elim)
theorem pe_callG (F : FnG X.prog X.w X.K X.mg X.base CX k f fd ps sp) (gd : X.A.guards = some []) (hr : Room k X.A) (hg : Gl X x) (hm : X.mg x = some (.ref f)) (hk : PySem.W.keepIn X.K (.ref f) = true) (hb : Binds X.K fd ps []) (hx : Passes CX X E) (ha : PA X (e :: es) t)
    (hdb : (x == ("__debug__" : Str)) = false) (he : starEach (e :: es) X.env = (false, eval e X.env) :: starEach es X.env) (hpl : (backTo pos (starEach es X.env)).any (·.1) = false) : PE X (.Call (.Name x p) (e :: es) [] pos) (tCall sp [] E t) := by
  refine ⟨fun pins z σ H Q I h => wpAny_Call_Name_kw (ld_glob I hg hm ?_ hdb)⟩
  refine PySem.W.callWith_K (h₀ := X.base) I.ok.mod.kin hk (thn (ha.run pos pins z σ H _ I h) fun us z1 ⟨vs, H1, I1, r, q⟩ => ⟨I1.kIn, wp_g ?_⟩) he hpl
  have q : sp (vs ++ []) H1 Q E := q
  rw [List.append_nil] at q
  have hl : us.length = ps.length := by rw [← r.length]; exact F.len _ _ _ _ q
  have hb1 := hb z1 us I1.kIn (by simpa using hl)
  rw [List.append_nil] at hb1
  exact run_g F gd hr hx I1 hb1 r q
theorem pe_callG0 (F : FnG X.prog X.w X.K X.mg X.base CX k f fd ps sp) (gd : X.A.guards = some []) (hr : Room k X.A) (hg : Gl X x) (hm : X.mg x = some (.ref f)) (hk : PySem.W.keepIn X.K (.ref f) = true) (hb : Binds X.K fd ps []) (hx : Passes CX X E)
    (hdb : (x == ("__debug__" : Str)) = false) : PE X (.Call (.Name x p) [] [] pos) (tCall sp [] E tNil) := by
  refine ⟨fun pins z σ H Q I h => wpAny_Call_Name_kw (ld_glob I hg hm (PySem.W.callWith_K0 I.kIn hk (wp_g ?_)) hdb)⟩
  have q : sp [] H Q E := h
  have hb1 := hb z [] I.kIn (by have := F.len _ _ _ _ q; simpa using this)
  exact run_g (us := []) F gd hr hx I hb1 .nil q
theorem pe_callKG {g : List Value → List Value → List Value} {gV : List V → List V → List V} (F : FnG X.prog X.w X.K X.mg X.base CX k f fd ps sp) (gd : X.A.guards = some []) (hr : Room k X.A) (hg : Gl X x) (hm : X.mg x = some (.ref f)) (hk : PySem.W.keepIn X.K (.ref f) = true) (hb : KBinds X.K fd ps ks g gV) (hx : Passes CX X E)
    (hkw : PK X kws tk) (hall : (backToKw pos (keywordEach kws X.env)).all (·.1.isSome) = true) (hks : (backToKw pos (keywordEach kws X.env)).filterMap (·.1) = ks) (hdb : (x == ("__debug__" : Str)) = false)
    (hpl : ((backTo pos (starEach [] X.env)).any (·.1) || (backToKw pos (keywordEach kws X.env)).any (·.1.isNone)) = false) : PE X (.Call (.Name x p) [] kws pos) (tCallK sp gV E tNil tk) := by
  refine ⟨fun pins z σ H Q I h => wpAny_Call_Name_kw (ld_glob I hg hm ?_ hdb)⟩
  refine PySem.W.callWith_KW0 (h₀ := X.base) I.ok.mod.kin hk hall (thn (hkw.run pos pins z σ H _ I h) fun ws z2 ⟨zs, H2, I2, rz, q2⟩ => ⟨I2.kIn, ?_⟩) hpl
  rw [hks]
  have r2 := hb.rel (.nil : Vals [] []) rz
  have hl : (g [] ws).length = ps.length := by rw [← r2.length]; exact F.len _ _ _ _ q2
  exact wp_g (run_g F gd hr hx I2 (hb.to z2 [] ws I2.kIn hl) r2 q2)
end
end Qy
set_option Elab.async false
set_option linter.all false
set_option maxRecDepth 100000
set_option maxHeartbeats 400000
namespace Qy
open PySem PySem.Spec PyProof.Rows L2
/-- what a def makes of its arguments: its outcome, and what is given back of each -/
abbrev Mir := List OD → Option (OD × List (Option OD))
def spM (K : PySem.W.Frag) (n : Nat) (m : Mir) : Sp := fun vs H Q _ => ∃ S F ods r outs, vs.length = n ∧ ods.length = n ∧ outs.length = n ∧ Own K S H [] (vs.zip ods ++ F) ∧ m ods = some (r, outs) ∧
  ∀ v S' H', Ex S S' → Own K S' H' [] ((v, r) :: (its outs (vs.map some) ++ F)) → Q v H'
structure Cal (P : Program) (w : World) (K : PySem.W.Frag) (mg : Str → Option Value) (base : Heap) (x : Str) (st : Stmt) (k : Nat) (ps : List Str) (m : Mir) : Prop where
  ex : ∃ f fd, mg x = some (.ref f) ∧ FunD K x x (defArgs st) (defBody st) (defScope st) [] [] f fd ∧ FnG P w K mg base CX0 k f fd ps (spM K ps.length m)
/-- how a def's text binds -/
def BindT (x : Str) (st : Stmt) (ps : List Str) : Prop := ∀ (kV doc pm : Value) (an : Option Addr) (cdv ct : Value) (us : List Value), us.length = ps.length → bindArgs (PySem.W.fnOf x x (defArgs st) (defBody st) (defScope st) .none kV doc pm an cdv ct) ⟨us, []⟩ = pure (ps.zip us)
structure KBindT (x : Str) (st : Stmt) (ps ks : List Str) (g : List Value → List Value → List Value) (gV : List V → List V → List V) : Prop where
  to : ∀ (kV doc pm : Value) (an : Option Addr) (cdv ct : Value) (us ws : List Value), (g us ws).length = ps.length → bindArgs (PySem.W.fnOf x x (defArgs st) (defBody st) (defScope st) .none kV doc pm an cdv ct) ⟨us, ks.zip ws⟩ = pure (ps.zip (g us ws))
  rel : ∀ {vs : List V} {us : List Value} {zs : List V} {ws : List Value}, Vals vs us → Vals zs ws → Vals (gV vs zs) (g us ws)
section
variable {X : Cx} {pin : List (Option V)} {K : PySem.W.Frag} {e a b : Expr} {pos p : Pos}
/-! ### arguments: frozen, or lent out of a slot -/
def RB (K : PySem.W.Frag) (pin : List (Option V)) (t : TA) (f : Fa) (bk : List (Option Nat)) : Prop := ∀ S H T ρ σ F Q ods ρ', Sat K pin S H T ρ σ F → f ρ = some (ods, ρ') →
  (∀ vs S' H', Ex S S' → vs.length = ods.length → (∀ (n i : Nat), bk[n]? = some (some i) → ∃ v, vs[n]? = some v ∧ σ[i]? = some (some v)) → Sat K pin S' H' (vs.zip ods ++ T) ρ' σ F → Q vs H') → t σ H Q
structure SRB (X : Cx) (pin : List (Option V)) (es : List Expr) (t : TA) (f : Fa) (bk : List (Option Nat)) : Prop where
  pe : PA X es t
  rd : RB X.K pin t f bk
theorem rb_nil : RB K pin tNil fNil [] := by
  intro S H T ρ σ F Q ods ρ' w e k
  cases e
  exact k [] S H (ex_refl S) rfl (fun n i h => by simp at h) w
theorem rb_cons {t : TE} {f : Fe} {r : TA} {fr : Fa} {bk : List (Option Nat)} (h : RE K pin t f) (hr : RB K pin r fr bk) : RB K pin (tCons t r) (fCons f fr) (none :: bk) := by
  intro S H T ρ σ F Q od ρ' w e k
  unfold fCons at e
  split at e
  · rename_i o ρ1 q1
    split at e
    · rename_i os ρ2 q2
      cases e
      refine h S H T ρ σ F _ o ρ1 w q1 fun v S1 H1 e1 w1 => ?_
      refine hr S1 H1 _ ρ1 σ F _ os ρ' w1 q2 fun vs S2 H2 e2 hl hb w2 => ?_
      refine k (v :: vs) S2 H2 (ex_trans e1 e2) (by simp [hl]) (fun n i h => ?_) (w2.with (w2.own.perm ?_))
      · cases n with
        | zero => simp at h
        | succ n => simpa using hb n i (by simpa using h)
      · simp only [List.zip_cons_cons, List.cons_append, List.append_assoc]
        exact List.perm_middle
    · cases e
  · cases e
/-- an argument lent: its slot is emptied behind the other arguments -/
def fLend (i : Nat) (r : Fa) : Fa := fun ρ => match ρ[i]? with
  | some (some _) => (match r ρ with
    | some (os, ρ1) => (match ρ1[i]? with
      | some (some o) => some (o :: os, ρ1.set i none)
      | _ => none)
    | none => none)
  | _ => none
theorem rb_lend {i : Nat} {r : TA} {fr : Fa} {bk : List (Option Nat)} (hr : RB K pin r fr bk) : RB K pin (tCons (tVar i) r) (fLend i fr) (some i :: bk) := by
  intro S H T ρ σ F Q od ρ' w e k
  unfold fLend at e
  split at e
  · rename_i o0 ho0
    obtain ⟨v, hv⟩ := w.wf i o0 ho0
    split at e
    · rename_i os ρ1 q2
      split at e
      · rename_i o ho
        cases e
        refine ⟨v, hv, ?_⟩
        refine hr S H _ _ σ F _ os ρ1 w q2 fun vs S2 H2 e2 hl hb w2 => ?_
        obtain ⟨v', hv', w3⟩ := w2.take ho
        rw [hv] at hv'
        cases hv'
        refine k (v :: vs) S2 H2 e2 (by simp [hl]) (fun n j h => ?_) (w3.with (w3.own.perm ?_))
        · cases n with
          | zero => cases (show some (some i) = some (some j) by simpa using h); exact ⟨v, by simp, hv⟩
          | succ n => simpa using hb n j (by simpa using h)
        · simp only [List.zip_cons_cons, List.cons_append, List.append_assoc]
          exact .refl _
      · cases e
    · cases e
  · cases e
theorem len_lend {i : Nat} {fr : Fa} {n : Nat} (h : ∀ ρ os ρ', fr ρ = some (os, ρ') → os.length = n) : ∀ ρ os ρ', fLend i fr ρ = some (os, ρ') → os.length = n + 1 := fun ρ os ρ' q => by
  unfold fLend at q
  split at q
  · split at q
    · rename_i q2
      split at q
      · cases q
        simp [h _ _ _ q2]
      · cases q
    · cases q
  · cases q
theorem sb0_nil : SRB X pin [] tNil fNil [] := ⟨pa_nil, rb_nil⟩
theorem sb0_cons {t : TE} {f : Fe} {es : List Expr} {r : TA} {fr : Fa} {bk : List (Option Nat)} (h : SE X pin e t f) (hr : SRB X pin es r fr bk) (hs : starEach (e :: es) X.env = (false, eval e X.env) :: starEach es X.env := by rfl) : SRB X pin (e :: es) (tCons t r) (fCons f fr) (none :: bk) :=
  ⟨pa_cons h.pe hr.pe hs, rb_cons h.rd hr.rd⟩
theorem sb0_lend (i : Nat) {x : Str} {es : List Expr} {r : TA} {fr : Fa} {bk : List (Option Nat)} (hr : SRB X pin es r fr bk) (hN : X.N[i]? = some x := by rfl) (hv : Vis X.env.scope x := by first | exact Or.inl rfl | exact Or.inr (Or.inl rfl) | exact Or.inr (Or.inr rfl)) (hd : (x == ("__debug__" : Str)) = false := by decide)
    (hcd : (x == ("__classdict__" : Str)) = false := by decide) (hs : starEach (.Name x p :: es) X.env = (false, eval (.Name x p) X.env) :: starEach es X.env := by rfl) : SRB X pin (.Name x p :: es) (tCons (tVar i) r) (fLend i fr) (some i :: bk) :=
  ⟨pa_cons (pe_var hN hv hd hcd) hr.pe hs, rb_lend hr.rd⟩
/-! ### the call -/
def putBack : List (Option Nat) → List (Option OD) → Rho → Rho
  | some i :: bk, some o :: outs, ρ => putBack bk outs (ρ.set i (some o))
  | some _ :: bk, none :: outs, ρ => putBack bk outs ρ
  | none :: bk, _ :: outs, ρ => putBack bk outs ρ
  | _, _, ρ => ρ
def fCall (m : Mir) (f : Fa) (bk : List (Option Nat)) : Fe := fun ρ => match f ρ with
  | none => none
  | some (ods, ρ1) => match m ods with
    | none => none
    | some (r, outs) => if outs.length = ods.length then some (r, putBack bk outs ρ1) else none
theorem sat_back {S H : Hp} {T F : List It} {σ : L2.St} : ∀ (bk : List (Option Nat)) (outs : List (Option OD)) (vs : List V) (ρ : Rho), vs.length = outs.length → (∀ (n i : Nat), bk[n]? = some (some i) → ∃ v, vs[n]? = some v ∧ σ[i]? = some (some v)) →
    Sat K pin S H (its outs (vs.map some) ++ T) ρ σ F → Sat K pin S H T (putBack bk outs ρ) σ F
  | [], outs, vs, ρ, _, _, w => by
    have h : putBack [] outs ρ = ρ := by cases outs <;> rfl
    rw [h]
    refine w.with ?_
    have := w.own
    rw [List.append_assoc] at this
    exact this.drop
  | bo :: bk, [], vs, ρ, hl, _, w => by
    have hv : vs = [] := by simpa using hl
    subst hv
    have h : putBack (bo :: bk) [] ρ = ρ := by cases bo <;> rfl
    rw [h]
    exact w
  | bo :: bk, c :: outs, [], ρ, hl, _, _ => by simp at hl
  | none :: bk, c :: outs, v :: vs, ρ, hl, hb, w => by
    refine sat_back bk outs vs ρ (by simpa using hl) (fun n i h => by simpa using hb (n + 1) i (by simpa using h)) ?_
    cases c with
    | none => exact w
    | some o => exact w.tl
  | some i :: bk, none :: outs, v :: vs, ρ, hl, hb, w =>
    sat_back bk outs vs ρ (by simpa using hl) (fun n i h => by simpa using hb (n + 1) i (by simpa using h)) w
  | some i :: bk, some o :: outs, v :: vs, ρ, hl, hb, w => by
    refine sat_back bk outs vs _ (by simpa using hl) (fun n i h => by simpa using hb (n + 1) i (by simpa using h)) ?_
    obtain ⟨u, hu, hs⟩ := hb 0 i (by simp)
    have hu' : v = u := by simpa using hu
    subst hu'
    exact Sat.back (show Sat K pin S H ((v, o) :: (its outs (vs.map some) ++ T)) ρ σ F from w) hs
theorem re_call {t : TA} {f : Fa} {bk : List (Option Nat)} {m : Mir} {n : Nat} (h : RB K pin t f bk) (hn : ∀ ρ os ρ', f ρ = some (os, ρ') → os.length = n) : RE K pin (tCall (spM K n m) [] E0 t) (fCall m f bk) := by
  intro S H T ρ σ F Q od ρ' w e k
  unfold fCall at e
  split at e
  · cases e
  · rename_i ods ρ1 q1
    split at e
    · cases e
    · rename_i r outs q2
      split at e
      · rename_i hl2
        cases e
        refine h S H T ρ σ F _ _ _ w q1 fun vs S' H' x hl hb w' => ?_
        have hn' := hn _ _ _ q1
        refine ⟨S', T ++ (its ρ1 σ ++ F), ods, od, outs, by simp; omega, hn', by omega, ?_, q2, fun v S2 H2 e2 o2 => ?_⟩
        · have := w'.own
          rw [List.append_assoc] at this
          simpa using this
        · have w2 : Sat K pin S2 H2 (its outs (vs.map some) ++ ((v, od) :: T)) ρ1 σ F := w'.with (by
            refine o2.perm ?_
            simp only [List.append_nil, List.append_assoc, List.cons_append]
            exact List.perm_middle.symm)
          exact k v S2 H2 (ex_trans x e2) (sat_back bk outs vs ρ1 (by omega) hb w2)
      · cases e
theorem se_call {x : Str} {st : Stmt} {k : Nat} {ps : List Str} {m : Mir} {es : List Expr} {t : TA} {f : Fa} {bk : List (Option Nat)} (c : Cal X.prog X.w X.K X.mg X.base x st k ps m) (gd : X.A.guards = some []) (hr : Room k X.A) (hb : BindT x st ps) (ha : SRB X pin (e :: es) t f bk) (hn : ∀ ρ os ρ', f ρ = some (os, ρ') → os.length = ps.length)
    (hg : Gl X x := by rfl) (hdb : (x == ("__debug__" : Str)) = false := by decide) (he : starEach (e :: es) X.env = (false, eval e X.env) :: starEach es X.env := by rfl) (hpl : (backTo pos (starEach es X.env)).any (·.1) = false := by rfl)
    (hK : X.K = K := by rfl) : SE X pin (.Call (.Name x p) (e :: es) [] pos) (tCall (spM K ps.length m) [] E0 t) (fCall m f bk) := by
  subst hK
  obtain ⟨fa, fd, hm, F, ok⟩ := c.ex
  exact ⟨pe_callG ok gd hr hg hm F.kp (F.bindsN hb) pass0 ha.pe hdb he hpl, re_call ha.rd hn⟩
/-! ### by keywords alone -/
structure SKw (X : Cx) (pin : List (Option V)) (kws : List Keyword) (t : TA) (f : Fa) (bk : List (Option Nat)) : Prop where
  pe : PK X kws t
  rd : RB X.K pin t f bk
theorem sk_nil : SKw X pin [] tNil fNil [] := ⟨pk_nil, rb_nil⟩
theorem sk_cons {t : TE} {f : Fe} {kws : List Keyword} {r : TA} {fr : Fa} {bk : List (Option Nat)} {nm : Option Str} {kpos : Pos} (h : SE X pin e t f) (hr : SKw X pin kws r fr bk) : SKw X pin (⟨nm, e, kpos⟩ :: kws) (tCons t r) (fCons f fr) (none :: bk) := ⟨pk_cons h.pe hr.pe, rb_cons h.rd hr.rd⟩
end
end Qy
set_option Elab.async false
set_option linter.all false
set_option maxRecDepth 100000
set_option maxHeartbeats 400000
namespace Qy
open PySem PySem.Spec PyProof.Rows L2
section
variable {X : Cx} {pin : List (Option V)} {K : PySem.W.Frag} {e a b : Expr} {pos p : Pos}
/-! ### keywords in another sequence -/
def pick {α : Type} (π : List Nat) (l : List α) : List α := π.filterMap fun i => l[i]?
theorem pick_range {α : Type} (l : List α) : pick (List.range l.length) l = l := by
  unfold pick
  apply List.ext_getElem?
  intro i
  have : (List.range l.length).filterMap (fun i => l[i]?) = l := by
    have h : ∀ (n : Nat), n ≤ l.length → (List.range n).filterMap (fun i => l[i]?) = l.take n := by
      intro n
      induction n with
      | zero => intro _; simp
      | succ n ih =>
        intro hn
        rw [List.range_succ, List.filterMap_append, ih (by omega)]
        have hl : n < l.length := by omega
        rw [List.take_succ, List.getElem?_eq_getElem hl]
        simp only [List.filterMap_cons, List.getElem?_eq_getElem hl, List.filterMap_nil, Option.toList]
    rw [h l.length (Nat.le_refl _), List.take_length]
  rw [this]
theorem pick_perm {α : Type} {π : List Nat} {l : List α} (h : π.Perm (List.range l.length)) : (pick π l).Perm l := by
  have := h.filterMap fun i => l[i]?
  exact this.trans (by rw [show (List.range l.length).filterMap (fun i => l[i]?) = l from pick_range l])
theorem pick_zip {α β : Type} (π : List Nat) : ∀ (a : List α) (b : List β), a.length = b.length → (pick π a).zip (pick π b) = pick π (a.zip b) := by
  intro a b hl
  unfold pick
  induction π with
  | nil => rfl
  | cons i π ih =>
    by_cases hi : i < a.length
    · have hb : i < b.length := by omega
      simp only [List.filterMap_cons, List.getElem?_eq_getElem hi, List.getElem?_eq_getElem hb]
      have hz : (a.zip b)[i]? = some (a[i], b[i]) := by rw [List.getElem?_zip_eq_some]; exact ⟨List.getElem?_eq_getElem hi, List.getElem?_eq_getElem hb⟩
      rw [hz]
      simp [ih]
    · have h1 : a[i]? = none := List.getElem?_eq_none (by omega)
      have h2 : b[i]? = none := List.getElem?_eq_none (by omega)
      have h3 : (a.zip b)[i]? = none := List.getElem?_eq_none (by simp; omega)
      simp only [List.filterMap_cons, h1, h2, h3]
      exact ih
def gp {α : Type} (n : Nat) (π : List Nat) : List α → List α → List α := fun vs zs => match vs with
  | [] => if zs.length = n then pick π zs else []
  | _ => []
theorem vals_pick {vs : List V} {us : List Value} (r : Vals vs us) (π : List Nat) : Vals (pick π vs) (pick π us) := by
  unfold pick
  induction π with
  | nil => exact .nil
  | cons i π ih =>
    simp only [List.filterMap_cons]
    cases h : vs[i]? with
    | none => rw [r.none_of h]; exact ih
    | some v =>
      obtain ⟨u, hu, ru⟩ := r.get h
      rw [hu]
      exact .cons ru ih
theorem kb_mk {x : Str} {st : Stmt} {ps ks : List Str} {n : Nat} {π : List Nat} (hps : 0 < ps.length) (h : ∀ (kV doc pm : Value) (an : Option Addr) (cdv ct : Value) (ws : List Value), ws.length = n → bindArgs (PySem.W.fnOf x x (defArgs st) (defBody st) (defScope st) .none kV doc pm an cdv ct) ⟨[], ks.zip ws⟩ = pure (ps.zip (pick π ws))) :
    KBindT x st ps ks (gp n π) (gp n π) where
  to := fun kV doc pm an cdv ct us ws hl => by
    cases us with
    | cons _ _ => unfold gp at hl; simp only [List.length_nil] at hl; omega
    | nil =>
      by_cases hw : ws.length = n
      · simp only [gp, if_pos hw]
        exact h kV doc pm an cdv ct ws hw
      · simp only [gp, if_neg hw, List.length_nil] at hl; omega
  rel := fun {vs us zs ws} r1 r2 => by
    cases r1 with
    | nil =>
      simp only [gp, r2.length]
      split
      · exact vals_pick r2 π
      · exact .nil
    | cons _ _ => exact .nil
theorem KBindT.k {K : PySem.W.Frag} {x : Str} {st : Stmt} {ps ks : List Str} {g : List Value → List Value → List Value} {gV : List V → List V → List V} {f : Addr} {fd : FuncData} {kws : List (Str × V)} (h : KBindT x st ps ks g gV) (F : FunD K x x (defArgs st) (defBody st) (defScope st) [] kws f fd) : KBinds K fd ps ks g gV := by
  obtain ⟨oc, od, dV, kV, doc, pm, an, cdv, ct, osl, rfl, lk, hcd, hD, hK⟩ := F.ex
  rcases hD with ⟨_, rfl⟩ | ⟨e, _⟩
  · exact ⟨fun s us ws _ hl => .of_eq (h.to kV doc pm an cdv ct us ws hl), h.rel⟩
  · exact absurd rfl e
def fCallK (m : Mir) (π : List Nat) (f : Fa) : Fe := fun ρ => match f ρ with
  | none => none
  | some (ods, ρ1) => match m (pick π ods) with
    | none => none
    | some (r, outs) => if outs.length = ods.length then some (r, ρ1) else none
theorem re_callK {t : TA} {f : Fa} {bk : List (Option Nat)} {m : Mir} {n : Nat} {π : List Nat} (hπ : π.Perm (List.range n)) (h : RB K pin t f bk) (hn : ∀ ρ os ρ', f ρ = some (os, ρ') → os.length = n) : RE K pin (tCallK (spM K n m) (gp n π) E0 tNil t) (fCallK m π f) := by
  intro S H T ρ σ F Q od ρ' w e k
  unfold fCallK at e
  split at e
  · cases e
  · rename_i ods ρ1 q1
    split at e
    · cases e
    · rename_i r outs q2
      split at e
      · rename_i hl2
        cases e
        show t σ H _
        refine h S H T ρ σ F _ _ _ w q1 fun vs S' H' x hl hb w' => ?_
        have hn' := hn _ _ _ q1
        have hv : vs.length = n := by omega
        have lp : ∀ {α : Type} (l : List α), l.length = n → (pick π l).length = n := fun l hh => by
          have := (pick_perm (l := l) (π := π) (by rw [hh]; exact hπ)).length_eq
          omega
        refine ⟨S', T ++ (its ρ' σ ++ F), pick π ods, od, outs, ?_, lp ods hn', by omega, ?_, q2, fun v S2 H2 e2 o2 => ?_⟩
        · simp only [gp, if_pos hv]; exact lp vs hv
        · have ow := w'.own
          rw [List.append_assoc] at ow
          simp only [gp, if_pos hv]
          rw [pick_zip π vs ods (by omega)]
          refine ow.perm ((pick_perm ?_).symm.append_right _)
          have : (vs.zip ods).length = n := by simp; omega
          rw [this]; exact hπ
        · refine k v S2 H2 (ex_trans x e2) (w'.with (T' := (v, od) :: T) ?_)
          have o3 := o2.perm (List.perm_middle (a := (v, od)) (l₁ := its outs ((gp n π [] vs).map some)) (l₂ := T ++ (its ρ' σ ++ F))).symm
          exact o3.drop
      · cases e
theorem se_callK {x : Str} {st : Stmt} {k : Nat} {ps ks : List Str} {m : Mir} {kws : List Keyword} {t : TA} {f : Fa} {bk : List (Option Nat)} {π : List Nat} (c : Cal X.prog X.w X.K X.mg X.base x st k ps m) (gd : X.A.guards = some []) (hr : Room k X.A) (hb : KBindT x st ps ks (gp ps.length π) (gp ps.length π)) (ha : SKw X pin kws t f bk) (hn : ∀ ρ os ρ', f ρ = some (os, ρ') → os.length = ps.length)
    (hπ : π.Perm (List.range ps.length)) (hall : (backToKw pos (keywordEach kws X.env)).all (·.1.isSome) = true := by rfl) (hks : (backToKw pos (keywordEach kws X.env)).filterMap (·.1) = ks := by rfl) (hg : Gl X x := by rfl) (hdb : (x == ("__debug__" : Str)) = false := by decide)
    (hpl : ((backTo pos (starEach [] X.env)).any (·.1) || (backToKw pos (keywordEach kws X.env)).any (·.1.isNone)) = false := by rfl)
    (hK : X.K = K := by rfl) : SE X pin (.Call (.Name x p) [] kws pos) (tCallK (spM K ps.length m) (gp ps.length π) E0 tNil t) (fCallK m π f) := by
  subst hK
  obtain ⟨fa, fd, hm, F, ok⟩ := c.ex
  exact ⟨pe_callKG ok gd hr hg hm F.kp (hb.k F) pass0 ha.pe hall hks hdb hpl, re_callK hπ ha.rd hn⟩

/-! ### a def -/
def rho0 (N : List Str) (ods : List OD) : Rho := ods.map some ++ List.replicate (N.length - ods.length) none
def outsOf : List Bool → Rho → List (Option OD)
  | true :: B, c :: ρ => c :: outsOf B ρ
  | false :: B, _ :: ρ => none :: outsOf B ρ
  | _, _ => []
def pinOf : List Bool → List V → List (Option V)
  | true :: B, v :: vs => some v :: pinOf B vs
  | false :: B, _ :: vs => none :: pinOf B vs
  | _, _ => []
theorem its_none : ∀ (n : Nat) (σ : L2.St), its (List.replicate n none) σ = []
  | 0, σ => by cases σ <;> rfl
  | n + 1, [] => rfl
  | n + 1, b :: σ => by
    show its (none :: List.replicate n none) (b :: σ) = []
    cases b <;> exact its_none n σ
theorem its_start : ∀ (vs : List V) (ods : List OD) (n : Nat) (r : L2.St), vs.length = ods.length → its (ods.map some ++ List.replicate n none) (vs.map some ++ r) = vs.zip ods
  | [], [], n, r, _ => by simpa using its_none n r
  | v :: vs, o :: ods, n, r, h => by
    show (v, o) :: its (ods.map some ++ List.replicate n none) (vs.map some ++ r) = _
    rw [its_start vs ods n r (by simpa using h)]
    rfl
theorem pinOf_get : ∀ (B : List Bool) (vs : List V) (i : Nat) (v : V), (pinOf B vs)[i]? = some (some v) → vs[i]? = some v
  | true :: B, u :: vs, 0, v, h => by simpa [pinOf] using h
  | false :: B, u :: vs, 0, v, h => by simp [pinOf] at h
  | true :: B, u :: vs, i + 1, v, h => by simpa using pinOf_get B vs i v (by simpa [pinOf] using h)
  | false :: B, u :: vs, i + 1, v, h => by simpa using pinOf_get B vs i v (by simpa [pinOf] using h)
  | [], _, _, _, h => by simp [pinOf] at h
  | true :: _, [], _, _, h => by simp [pinOf] at h
  | false :: _, [], _, _, h => by simp [pinOf] at h
theorem pinOf_no : ∀ (B : List Bool) (vs : List V) (i : Nat), B[i]? ≠ some true → NoPin (pinOf B vs) i
  | true :: B, u :: vs, 0, h => by simp at h
  | false :: B, u :: vs, 0, h => .inr (by simp [pinOf])
  | true :: B, u :: vs, i + 1, h => by simpa [NoPin, pinOf] using pinOf_no B vs i (by simpa using h)
  | false :: B, u :: vs, i + 1, h => by simpa [NoPin, pinOf] using pinOf_no B vs i (by simpa using h)
  | [], _, _, _ => .inl (by simp [pinOf])
  | true :: _, [], _, _ => .inl (by simp [pinOf])
  | false :: _, [], _, _ => .inl (by simp [pinOf])
theorem its_outs : ∀ (B : List Bool) (ρ : Rho) (σ : L2.St) (vs : List V), (∀ (i : Nat) v, (pinOf B vs)[i]? = some (some v) → σ[i]? = some (some v)) → ∃ r, (its ρ σ).Perm (r ++ its (outsOf B ρ) (vs.map some))
  | [], ρ, σ, vs, _ => ⟨its ρ σ, by simp [outsOf, its]⟩
  | true :: B, [], σ, vs, _ => ⟨[], by simp [outsOf, its]⟩
  | false :: B, [], σ, vs, _ => ⟨[], by simp [outsOf, its]⟩
  | bb :: B, c :: ρ, σ, [], _ => ⟨its (c :: ρ) σ, by cases bb <;> simp [outsOf, its]⟩
  | false :: B, c :: ρ, [], v :: vs, h => ⟨[], by
      have : its (outsOf (false :: B) (c :: ρ)) ((v :: vs).map some) = its (outsOf B ρ) (vs.map some) := rfl
      obtain ⟨r, q⟩ := its_outs B ρ [] vs (fun i u z => by
        have := h (i + 1) u (by simpa [pinOf] using z)
        simp at this)
      have e0 : its ρ ([] : L2.St) = [] := by cases ρ with | nil => rfl | cons a b => cases a <;> rfl
      have e1 : its (c :: ρ) ([] : L2.St) = [] := by cases c <;> rfl
      rw [e0] at q
      rw [this, e1]
      have := q.length_eq
      simp only [List.length_nil, List.length_append] at this
      have z : its (outsOf B ρ) (vs.map some) = [] := List.eq_nil_of_length_eq_zero (by omega)
      rw [z]; exact .nil⟩
  | true :: B, c :: ρ, [], v :: vs, h => by
    have := h 0 v (by simp [pinOf])
    simp at this
  | false :: B, c :: ρ, s :: σ, v :: vs, h => by
    obtain ⟨r, q⟩ := its_outs B ρ σ vs (fun i u z => by simpa using h (i + 1) u (by simpa [pinOf] using z))
    cases c with
    | none => exact ⟨r, q⟩
    | some o =>
      cases s with
      | none => exact ⟨r, q⟩
      | some u => exact ⟨(u, o) :: r, q.cons _⟩
  | true :: B, c :: ρ, s :: σ, v :: vs, h => by
    have hs : s = some v := by simpa using h 0 v (by simp [pinOf])
    subst hs
    obtain ⟨r, q⟩ := its_outs B ρ σ vs (fun i u z => by simpa using h (i + 1) u (by simpa [pinOf] using z))
    cases c with
    | none => exact ⟨r, q⟩
    | some o => exact ⟨r, (q.cons (v, o)).trans List.perm_middle.symm⟩
theorem mk_fn {P : Program} {w : World} {mg : Str → Option Value} {base : Heap} {x qual : Str} {dvs : List V} {kws : List (Str × V)} {st : Stmt} {f : Addr} {fd : FuncData} {N ps : List Str} {k : Nat} {m : Mir} (F : FunD K x qual (defArgs st) (defBody st) (defScope st) dvs kws f fd) (Sc : FnScope N ps (defScope st)) (B : List Bool) (Fb : Nat → Fs)
    (hm : ∀ ods r outs, m ods = some (r, outs) → ods.length = ps.length → ∃ n ρ', (Fb n (rho0 N ods) = some (.rt r ρ') ∨ (Fb n (rho0 N ods) = some (.nx ρ') ∧ r = .st .non)) ∧ outs = outsOf B ρ')
    (hbody : ∀ n cdv A outer s H E pin, A.guards = some [] → Room k (A.deeper (envOfC qual (defScope st) s.heap.objs.size f cdv)) → (∀ i, B[i]? ≠ some true → NoPin pin i) → ∃ t, SB (cxOf CX0 P w K mg base N qual (defScope st) f cdv A outer s H E).nox pin (defBody st) t (Fb n)) :
    FnG P w K mg base CX0 (k + 1) f fd ps (spM K ps.length m) := by
  obtain ⟨oc, od, dV, kV, doc, pm, an, cdv, ct, osl, rfl, lk, hcd, _, _⟩ := F.ex
  refine fnG_of lk hcd Sc (fun vs H Q E h => ?_) (fun A outer s H vs Q E gd hr h => ?_)
  · obtain ⟨S, FF, ods, r, outs, h1, _⟩ := h
    exact h1
  · obtain ⟨S, FF, ods, r, outs, h1, h2, h3, ow, hmm, kk⟩ := h
    obtain ⟨n, ρ', hres, ho⟩ := hm ods r outs hmm h2
    obtain ⟨t, sb⟩ := hbody n cdv A outer s H E (pinOf B vs) gd hr (pinOf_no B vs)
    have hN : ps.length ≤ N.length := by
      have := congrArg List.length Sc.pre
      simp at this
      omega
    have sat0 : Sat K (pinOf B vs) S H [] (rho0 N ods) (L2.start N vs) FF := by
      refine ⟨?_, fun i o h => ?_, ?_, fun i v h => ?_⟩
      · show Own K S H [] (its (rho0 N ods) (L2.start N vs) ++ FF)
        unfold rho0 L2.start
        rw [its_start vs ods _ _ (by omega)]
        exact ow
      · unfold rho0 at h
        have hi : i < ods.length := by
          by_cases hi : i < ods.length
          · exact hi
          · rw [List.getElem?_append_right (by simpa using hi)] at h
            have := List.mem_of_getElem? h
            rw [List.mem_replicate] at this
            cases this.2
        unfold L2.start
        refine ⟨vs[i]'(by omega), ?_⟩
        rw [List.getElem?_append_left (by simp; omega)]
        simp [show i < vs.length by omega]
      · simp [rho0, L2.start, h1, h2]
      · have := pinOf_get B vs i v h
        unfold L2.start
        have hi := (List.getElem?_eq_some_iff.mp this).1
        rw [List.getElem?_append_left (by simpa using hi)]
        simp [this]
    have fin : ∀ v S' H' σ', Ex S S' → Sat K (pinOf B vs) S' H' [(v, r)] ρ' σ' FF → Q v H' := fun v S' H' σ' x w' => by
      refine kk v S' H' x ?_
      obtain ⟨rr, q⟩ := its_outs B ρ' σ' vs w'.pin
      rw [ho]
      refine w'.own.sub ⟨rr, ?_⟩
      show ((v, r) :: (its ρ' σ' ++ FF)).Perm _
      refine (((q.append_right FF).cons (v, r))).trans ?_
      rw [List.append_assoc]
      exact List.perm_middle.symm
    refine ⟨t, sb.pe.nox, ?_⟩
    rcases hres with hr1 | ⟨hr1, rfl⟩
    · exact sb.rd S H (rho0 N ods) (L2.start N vs) FF _ _ sat0 hr1 fun v S' H' σ' x w' => fin v S' H' σ' x w'
    · exact sb.rd S H (rho0 N ods) (L2.start N vs) FF _ _ sat0 hr1 fun S' H' σ' x w' => fin .non S' H' σ' x (w'.push (.non .nil))
end
end Qy
set_option Elab.async false
set_option linter.all false
set_option maxRecDepth 100000
set_option maxHeartbeats 400000
namespace Qy
open PySem PySem.Spec PyProof.Rows L2
/-! ### trees as the library's data -/
mutual
def D.py : D → Option PyData
  | .non => some .none
  | .bl b => some (.bool b)
  | .int i => some (.int i)
  | .str x => some (.str x)
  | .lst xs => (pyL xs).map .list
  | .tup xs => (pyL xs).map .tuple
  | .kt xs => (pyL xs).map .tuple
  | .dK _ => none
  | .dT _ => none
  | .dF _ => none
  | .ins _ _ => none
  | .raw _ => none
  | .scr _ => none
def pyL : List D → Option (List PyData)
  | [] => some []
  | d :: ds => match d.py, pyL ds with
    | some p, some ps => some (p :: ps)
    | _, _ => none
end
section
variable {X : Cx} {pin : List (Option V)} {K : PySem.W.Frag} {S H : Hp} {e a b : Expr} {t ta tb : TE} {f : Fe} {oa ob : Fo} {pos p : Pos}
theorem pyL_cons {d : D} {ds : List D} {ps : List PyData} (h : pyL (d :: ds) = some ps) : ∃ q qs, d.py = some q ∧ pyL ds = some qs ∧ ps = q :: qs := by
  simp only [pyL] at h
  split at h
  · rename_i q qs h1 h2; cases h; exact ⟨q, qs, h1, h2, rfl⟩
  · cases h
theorem rpi_dp {l : List (V × D)} (h : RpI K S l) : ∀ {ps : List PyData}, pyL (l.map (·.2)) = some ps → DpAll K S (l.map (·.1)) ps := by
  induction h with
  | nil => intro ps q; cases q; exact .nil
  | non _ ih => intro ps q; obtain ⟨_, _, h1, h2, rfl⟩ := pyL_cons q; cases h1; exact .cons .non (ih h2)
  | bl _ ih => intro ps q; obtain ⟨_, _, h1, h2, rfl⟩ := pyL_cons q; cases h1; exact .cons (.bl _) (ih h2)
  | int _ ih => intro ps q; obtain ⟨_, _, h1, h2, rfl⟩ := pyL_cons q; cases h1; exact .cons (.int _) (ih h2)
  | str _ ih => intro ps q; obtain ⟨_, _, h1, h2, rfl⟩ := pyL_cons q; cases h1; exact .cons (.str _) (ih h2)
  | raw _ ih => intro ps q; obtain ⟨_, _, h1, h2, rfl⟩ := pyL_cons q; cases h1
  | scr _ _ ih => intro ps q; obtain ⟨_, _, h1, h2, rfl⟩ := pyL_cons q; cases h1
  | lst a b c _ i1 i2 =>
    intro ps q
    obtain ⟨_, _, h1, h2, rfl⟩ := pyL_cons q
    simp only [D.py, Option.map_eq_some_iff] at h1
    obtain ⟨qs, h3, rfl⟩ := h1
    refine .cons (.lst (SqL.of a) ?_) (i2 h2)
    have := i1 (ps := qs) (by rw [List.map_snd_zip (by omega)]; exact h3)
    rw [List.map_fst_zip (by omega)] at this
    exact this
  | tup a b c _ i1 i2 =>
    intro ps q
    obtain ⟨_, _, h1, h2, rfl⟩ := pyL_cons q
    simp only [D.py, Option.map_eq_some_iff] at h1
    obtain ⟨qs, h3, rfl⟩ := h1
    refine .cons (.tup (SqT.of a) ?_) (i2 h2)
    have := i1 (ps := qs) (by rw [List.map_snd_zip (by omega)]; exact h3)
    rw [List.map_fst_zip (by omega)] at this
    exact this
  | kt a b c _ i1 i2 =>
    intro ps q
    obtain ⟨_, _, h1, h2, rfl⟩ := pyL_cons q
    simp only [D.py, Option.map_eq_some_iff] at h1
    obtain ⟨qs, h3, rfl⟩ := h1
    refine .cons (.tup a ?_) (i2 h2)
    have := i1 (ps := qs) (by rw [List.map_snd_zip (by omega)]; exact h3)
    rw [List.map_fst_zip (by omega)] at this
    exact this
  | dK _ _ _ _ _ _ => intro ps q; obtain ⟨_, _, h1, h2, rfl⟩ := pyL_cons q; cases h1
  | dT _ _ _ _ _ _ => intro ps q; obtain ⟨_, _, h1, h2, rfl⟩ := pyL_cons q; cases h1
  | dF _ _ _ _ _ _ => intro ps q; obtain ⟨_, _, h1, h2, rfl⟩ := pyL_cons q; cases h1
  | ins _ _ _ _ _ _ => intro ps q; obtain ⟨_, _, h1, h2, rfl⟩ := pyL_cons q; cases h1
theorem dp_head {v : V} {q : PyData} (h : DpAll K S [v] [q]) : Dp K S v q := by cases h with | cons a _ => exact a
theorem rp_dp {v : V} {d : D} {q : PyData} (h : Rp K S v d) (hq : d.py = some q) : Dp K S v q :=
  dp_head (rpi_dp h (ps := [q]) (by simp [pyL, hq]))
mutual
theorem dp_mono {S' : Hp} (e : Ex S S') : ∀ {v : V} {q : PyData}, Dp K S v q → Dp K S' v q
  | _, _, .non => .non
  | _, _, .bl b => .bl b
  | _, _, .int i => .int i
  | _, _, .str x => .str x
  | _, _, .lst a b => .lst (ex_l e a) (dpall_mono e b)
  | _, _, .tup a b => .tup (ex_t e a) (dpall_mono e b)
theorem dpall_mono {S' : Hp} (e : Ex S S') : ∀ {vs : List V} {qs : List PyData}, DpAll K S vs qs → DpAll K S' vs qs
  | _, _, .nil => .nil
  | _, _, .cons a b => .cons (dp_mono e a) (dpall_mono e b)
end
theorem At.dp {x : V} {o : OD} {d : D} {q : PyData} (h : At K S H x o) (le : Ex S H) (r : o.rd = some d) (hq : d.py = some q) : Dp K H x q := by
  cases d with
  | lst ds =>
    obtain ⟨a, vs, rfl, ha, hl, hr⟩ := h.lst le r
    simp only [D.py, Option.map_eq_some_iff] at hq
    obtain ⟨qs, h3, rfl⟩ := hq
    refine .lst (SqL.of ha) (dpall_mono le ?_)
    have := rpi_dp hr (ps := qs) (by rw [List.map_snd_zip (by omega)]; exact h3)
    rw [List.map_fst_zip (by omega)] at this
    exact this
  | dK ds => cases hq
  | dT ds => cases hq
  | _ => exact dp_mono le (rp_dp (h.plain r (by simp) (by simp) (by simp)) hq)
/-! ### equality -/
def OD.py (o : OD) : Option PyData := o.val.py
theorem owi_dp {l : List It} {fp : List Addr} (h : OwI K S H l fp) (le : Ex S H) : ∀ {ps : List PyData}, pyL (l.map fun p => p.2.val) = some ps → DpAll K H (l.map (·.1)) ps := by
  induction h with
  | nil => intro ps q; cases q; exact .nil
  | st r _ ih => intro ps q; obtain ⟨_, _, h1, h2, rfl⟩ := pyL_cons q; exact .cons (dp_mono le (rp_dp r h1)) (ih h2)
  | ol a b c _ i1 i2 =>
    intro ps q
    obtain ⟨_, _, h1, h2, rfl⟩ := pyL_cons q
    simp only [OD.val, D.py, Option.map_eq_some_iff] at h1
    obtain ⟨qs, h3, rfl⟩ := h1
    refine .cons (.lst (SqL.of a) ?_) (i2 h2)
    rw [valL_map] at h3
    have := i1 (ps := qs) (by
      have e : ∀ (vs : List V) (os : List OD), vs.length = os.length → (vs.zip os).map (fun p => p.2.val) = os.map OD.val := fun vs os hl => by
        rw [← List.map_snd_zip (l₁ := vs) (l₂ := os) (by omega), List.map_map]
        rw [List.map_snd_zip (by omega)]
        rfl
      rw [e _ _ b]; exact h3)
    rw [List.map_fst_zip (by omega)] at this
    exact this
  | oK _ _ _ _ _ _ => intro ps q; obtain ⟨_, _, h1, h2, rfl⟩ := pyL_cons q; simp [OD.val, D.py] at h1
  | oT _ _ _ _ _ _ => intro ps q; obtain ⟨_, _, h1, h2, rfl⟩ := pyL_cons q; simp [OD.val, D.py] at h1
  | oi _ _ _ _ _ _ => intro ps q; obtain ⟨_, _, h1, h2, rfl⟩ := pyL_cons q; simp [OD.val, D.py] at h1
  | cell _ _ _ => intro ps q; obtain ⟨_, _, h1, h2, rfl⟩ := pyL_cons q; simp [OD.val, D.py] at h1
theorem At.py {x : V} {o : OD} {q : PyData} (h : At K S H x o) (le : Ex S H) (r : o.py = some q) : Dp K H x q := by
  obtain ⟨fp, w⟩ := h
  have r' : o.val.py = some q := r
  exact dp_head (owi_dp w le (ps := [q]) (by simp [pyL, r']))
def gEq : OD → OD → Option OD := fun a b => match a.py, b.py with
  | some p, some q => if SeqAt.shaped p = true ∧ SeqAt.shaped q = true then some (.st (.bl (PyData.eqv p q))) else none
  | _, _ => none
def gNe : OD → OD → Option OD := fun a b => match a.py, b.py with
  | some p, some q => if SeqAt.shaped p = true ∧ SeqAt.shaped q = true then some (.st (.bl (!PyData.eqv p q))) else none
  | _, _ => none
theorem rg_eq : RG2 K (rEqD K) gEq := by
  intro S H L x y ox oy oz Q w e k
  unfold gEq at e
  split at e
  · rename_i p q h1 h2
    split at e
    · rename_i hs
      cases e
      exact ⟨p, q, w.at1.py w.le h1, w.at0.py w.le h2, hs.1, hs.2, k _ S H (ex_refl S) (w.push (.bl .nil))⟩
    · cases e
  · cases e
theorem rg_ne : RG2 K (rNeD K) gNe := by
  intro S H L x y ox oy oz Q w e k
  unfold gNe at e
  split at e
  · rename_i p q h1 h2
    split at e
    · rename_i hs
      cases e
      exact ⟨p, q, w.at1.py w.le h1, w.at0.py w.le h2, hs.1, hs.2, k _ S H (ex_refl S) (w.push (.bl .nil))⟩
    · cases e
  · cases e
/-- x in a list of data -/
def gIn : OD → OD → Option OD := fun a b => match a.py, b.py with
  | some p, some (.list qs) => if SeqAt.shaped p = true ∧ SeqAt.shaped (.list qs) = true then some (.st (.bl (qs.any fun z => PyData.eqv z p))) else none
  | _, _ => none
def gNotIn : OD → OD → Option OD := fun a b => match a.py, b.py with
  | some p, some (.list qs) => if SeqAt.shaped p = true ∧ SeqAt.shaped (.list qs) = true then some (.st (.bl (!qs.any fun z => PyData.eqv z p))) else none
  | _, _ => none
theorem rg_in : RG2 K (rInD K) gIn := by
  intro S H L x y ox oy oz Q w e k
  unfold gIn at e
  split at e
  · rename_i p qs h1 h2
    split at e
    · rename_i hs
      cases e
      exact ⟨p, qs, w.at1.py w.le h1, w.at0.py w.le h2, hs.1, hs.2, k _ S H (ex_refl S) (w.push (.bl .nil))⟩
    · cases e
  · cases e
theorem rg_notIn : RG2 K (rNotInD K) gNotIn := by
  intro S H L x y ox oy oz Q w e k
  unfold gNotIn at e
  split at e
  · rename_i p qs h1 h2
    split at e
    · rename_i hs
      cases e
      exact ⟨p, qs, w.at1.py w.le h1, w.at0.py w.le h2, hs.1, hs.2, k _ S H (ex_refl S) (w.push (.bl .nil))⟩
    · cases e
  · cases e
/-! ### repr -/
def rRepr (K : PySem.W.Frag) : List V → Hp → VK → Prop := fun xs H Q => ∃ x d, xs = [x] ∧ Dp K H x d ∧ d.showable = true ∧ d.hasDict = false ∧ d.depth ≤ 64 ∧ d.shown.length ≤ sizeLine ∧ Q (.str d.shown) H
theorem call_repr (hu : X.A.units + 66 < cLine) (hg : X.A.guards = some []) : CallR X (.builtin "repr") (rRepr X.K) := by
  intro pins s σ H xs us Q I r h
  obtain ⟨x, d, rfl, hd, h1, h2, h3, h4, q⟩ := h
  obtain ⟨u, rfl, ru⟩ := vals1 r
  obtain ⟨as, rd⟩ := Dp.reads I d x u hd ru
  cases rd with
  | none => exact PySem.P.repr_of_none ⟨.str "None", H, I.tok _, ⟨_, rfl⟩, q⟩
  | bool b => exact PySem.P.repr_of_bool ⟨.str (if b then "True" else "False"), H, I.tok _, ⟨_, rfl⟩, q⟩
  | int i t => exact PySem.P.repr_of_int (by simpa [PyData.showable] using h1) ⟨.str (toString i), H, I.tok _, ⟨_, rfl⟩, q⟩
  | str y t => exact PySem.P.repr_of_str ⟨.str (reprText y), H, I.tok _, ⟨_, rfl⟩, q⟩ h4
  | list e1 e2 e3 e4 => exact repr_of_reads' (.list e1 e2 e3 e4) h1 (by rw [h2]; intro z; cases z) hg (by omega) (fun _ _ z => z) (fun h' u tk hk => ⟨.str _, H, I.kept hk, ⟨_, rfl⟩, q⟩) h4
  | tuple e1 e2 e3 e4 => exact repr_of_reads' (.tuple e1 e2 e3 e4) h1 (by rw [h2]; intro z; cases z) hg (by omega) (fun _ _ z => z) (fun h' u tk hk => ⟨.str _, H, I.kept hk, ⟨_, rfl⟩, q⟩) h4
  | dict _ _ _ _ _ => simp [PyData.hasDict] at h2

def gRepr : OD → Option OD := fun a => match a.py with
  | some d => if d.showable = true ∧ d.hasDict = false ∧ d.depth ≤ 64 ∧ d.shown.length ≤ big then some (.st (.str d.shown)) else none
  | none => none
theorem rg_repr : RG1 K (fun x H Q => rRepr K [x] H Q) gRepr := by
  intro S H L x ox oz Q w e k
  unfold gRepr at e
  split at e
  · rename_i d hd
    split at e
    · rename_i h
      cases e
      exact ⟨x, d, rfl, w.at0.py w.le hd, h.1, h.2.1, h.2.2.1, big_le h.2.2.2, k _ S H (ex_refl S) (w.push (.str .nil))⟩
    · cases e
  · cases e
/-! ### sorted -/
def pyD (d : D) : PyData := d.py.getD .none
def leD (a b : D) : Bool := W.dataLe false pyD a b
/-- the kinds of data that may be sorted: all of one kind -/
def sortOk (ds : List D) : Prop := (∀ d ∈ ds, d.py.isSome = true) ∧ W.AllAlike (ds.map pyD) ∧ W.Sortable (ds.map pyD) ∧ ∀ d ∈ ds, (pyD d).depth ≤ 64
def rSorted (K : PySem.W.Frag) : List V → Hp → VK → Prop := fun vs H Q => ∃ (a : Addr) (xs : List V) (ds : List D), vs = [.ref a] ∧ SqL K H a xs ∧ xs.length = ds.length ∧ (∀ p ∈ xs.zip ds, Dp K H p.1 (pyD p.2)) ∧ sortOk ds ∧
  ∀ p, H p = none → Q (.ref p) (upd H p (.lst (((xs.zip ds).mergeSort fun a b => leD a.2 b.2).map (·.1))))
theorem each_zip {its : List Value} {R : Value → V × D → Prop} : ∀ {xs : List V} {ds : List D}, xs.length = ds.length → Vals xs its → (∀ v u d, RelV v u → (v, d) ∈ xs.zip ds → R u (v, d)) → W.EachIs R its (xs.zip ds) := by
  induction its with
  | nil =>
    intro xs ds hl r _
    cases r
    exact .nil
  | cons u its ih =>
    intro xs ds hl r h
    cases r with
    | cons rv rr =>
      cases ds with
      | nil => cases hl
      | cons d ds =>
        simp only [List.zip_cons_cons]
        exact .cons (h _ _ _ rv (by simp)) (ih (by simpa using hl) rr fun v u' d' r' hm => h v u' d' r' (by simp [hm]))
theorem vals_each : ∀ {out : List Value} {l : List (V × D)}, W.EachIs (fun u p => RelV p.1 u) out l → Vals (l.map (·.1)) out
  | _, _, .nil => .nil
  | _, _, .cons r t => .cons r (vals_each t)
theorem cr_sortedQ (hu : X.A.units + 67 < cLine) : CallR X (.builtin "sorted") (rSorted X.K) := by
  intro pins s σ H vs us Q I r h
  obtain ⟨a, xs, ds, rfl, hs, hl, hp, ⟨h1, h2, h3, h4⟩, q⟩ := h
  obtain ⟨its, rv, hL, hz⟩ := I.list hs
  rw [Vals.ref1 r]
  have em : (xs.zip ds).map (fun p => pyD p.2) = ds.map pyD := by
    have : (xs.zip ds).map (fun p => pyD p.2) = ((xs.zip ds).map (·.2)).map pyD := by rw [List.map_map]; rfl
    rw [this, List.map_snd_zip (by omega)]
  have er : W.EachIs (fun u (p : V × D) => RelV p.1 u) its (xs.zip ds) := each_zip hl rv fun v u d r' _ => r'
  have er2 : W.EachIs (fun u (p : V × D) => ∃ as, Reads s.heap u (pyD p.2) as) its (xs.zip ds) := each_zip hl rv fun v u d r' hm => Dp.reads I _ v u (hp _ hm) r'
  refine W.sorted_data (R := fun u (p : V × D) => RelV p.1 u) (enc := fun p => pyD p.2) hL.isList er er2 (by rw [em]; exact h2) (by rw [em]; exact h3) (by rw [List.length_zip]; omega) (fun p hm => ?_) fun out ho hE => ?_
  · have := h4 p.2 (List.of_mem_zip hm).2
    omega
  · obtain ⟨ep, he'⟩ := PyProof.Rows.sortedAll_at s.heap its out.toArray
    have vv := vals_each hE
    refine ⟨.ref _, upd H (s.heap.objs.size + 1) (.lst _), I.laid (t' := s.toks) (fun _ _ => PyProof.Rows.sortedAll_old) (Nat.le_succ _) ⟨?_, out, ep, vv, he'⟩, rfl, q _ (I.hok.fresh (Nat.le_succ _))⟩
    rw [List.length_map, List.length_mergeSort, List.length_zip]; omega
/-- sorted(x) of a list, told as data; whether it may be sorted is the prover's to show -/
noncomputable def gSorted : OD → Option OD := fun a => match a.rd with
  | some (.lst ds) => (open Classical in if sortOk ds then some (.ol ((ds.mergeSort leD).map .st)) else none)
  | _ => none
theorem rg_sorted : RG1 K (fun x H Q => rSorted K [x] H Q) gSorted := by
  intro S H L x ox oz Q w e k
  unfold gSorted at e
  split at e
  · rename_i ds hd
    split at e
    · rename_i hok
      cases e
      obtain ⟨a, vs, rfl, ha, hl, hr⟩ := w.at0.lst w.le hd
      refine ⟨a, vs, ds, rfl, SqL.of ha, hl, fun p hp => ?_, hok, fun p hp => ?_⟩
      · have rp := RpI.all.mp hr p hp
        have hs := hok.1 p.2 (List.of_mem_zip hp).2
        cases hq : p.2.py with
        | none => rw [hq] at hs; cases hs
        | some q =>
          have : pyD p.2 = q := by unfold pyD; rw [hq]; rfl
          rw [this]
          exact dp_mono w.le (rp_dp rp hq)
      · refine k _ S _ (ex_refl S) ?_
        have hp2 := (List.mergeSort_perm (vs.zip ds) fun a b => leD a.2 b.2)
        have e1 : ((vs.zip ds).mergeSort fun a b => leD a.2 b.2).map (·.2) = ds.mergeSort leD := by
          rw [List.map_mergeSort (s := leD) (fun a _ b _ => rfl), List.map_snd_zip (by omega)]
        have hz : (((vs.zip ds).mergeSort fun a b => leD a.2 b.2).map (·.1)).zip (ds.mergeSort leD) = (vs.zip ds).mergeSort fun a b => leD a.2 b.2 := by
          rw [← e1]
          exact (List.zip_of_prod rfl rfl).symm
        refine Own.newS w ?_ (by simp [hl]) hp
        rw [hz]
        exact hr.sub fun p hp' => hp2.mem_iff.mp hp'
    · cases e
  · cases e
end
end Qy
set_option Elab.async false
set_option linter.all false
set_option maxRecDepth 100000
set_option maxHeartbeats 400000
namespace Qy
open PySem PySem.Spec PyProof.Rows L2
section
variable {X : Cx} {pin : List (Option V)} {K : PySem.W.Frag} {S H : Hp} {e a b : Expr} {t ta tb : TE} {f : Fe} {oa ob : Fo} {pos p apos : Pos} {es : List Expr} {tt : TA} {ff : Fa}
/-! ### displays -/
def fLst (f : Fa) : Fe := fun ρ => match f ρ with
  | some (ods, ρ1) => if ods.length ≤ big then some (.ol ods, ρ1) else none
  | none => none
theorem se_list (h : SA X pin es tt ff) : SE X pin (.List es pos) (tLst tt) (fLst ff) := ⟨pe_lst h.pe, by
  intro S H T ρ σ F Q od ρ' w e k
  unfold fLst at e
  split at e
  · rename_i ods ρ1 q
    split at e
    · rename_i hb
      cases e
      refine h.rd S H T ρ σ F _ _ _ w q fun vs S' H' x hl w' => ⟨big_le (by omega), fun p hp => k _ S' _ x ?_⟩
      have ow := w'.own
      rw [List.append_assoc] at ow
      exact w'.with (ow.newL hl hp)
    · cases e
  · cases e⟩
def fTup (f : Fa) : Fe := fun ρ => match f ρ with
  | some (ods, ρ1) => if ods.length ≤ big then some (.st (.tup (ods.map OD.val)), ρ1) else none
  | none => none
theorem se_tup {k : Nat} (h : SA X pin es tt ff) : SE X pin (.Tuple es k pos) (tTup tt) (fTup ff) := ⟨pe_tup h.pe, by
  intro S H T ρ σ F Q od ρ' w e k
  unfold fTup at e
  split at e
  · rename_i ods ρ1 q
    split at e
    · rename_i hb
      cases e
      refine h.rd S H T ρ σ F _ _ _ w q fun vs S' H' x hl w' => ⟨big_le (by omega), fun p hp => ?_⟩
      have ow := w'.own
      rw [List.append_assoc] at ow
      obtain ⟨S2, e2, r2, o2⟩ := ow.freeze
      rw [vals_zip] at r2
      obtain ⟨e3, o3⟩ := o2.newT r2 (by simp [hl]) hp
      exact k _ _ _ (ex_trans x (ex_trans e2 e3)) (w'.with o3)
    · cases e
  · cases e⟩
/-! ### subscripts -/
def gIx : OD → OD → Option OD := fun a b => match a.rd, b with
  | some (.lst ds), .st (.int i) => (atI ds i).map .st
  | some (.tup ds), .st (.int i) => (atI ds i).map .st
  | some (.kt ds), .st (.int i) => (atI ds i).map .st
  | some (.scr ns), .st (.int i) => (atI ns i).map fun n => .st (.int n)
  | some (.str z), .st (.int i) => if z.length ≤ big then (atI z.cps.toList i).map fun c => .st (.str ⟨#[c]⟩) else none
  | _, _ => none
theorem atI_zip {vs : List V} {ds : List D} {i : Int} {d : D} (hl : vs.length = ds.length) (h : atI ds i = some d) : ∃ v, atI vs i = some v ∧ (v, d) ∈ vs.zip ds := by
  unfold atI at h ⊢
  rw [hl]
  cases q : ixN ds.length i with
  | none => rw [q] at h; cases h
  | some j =>
    rw [q] at h
    have hj : ds[j]? = some d := h
    have hlt := (List.getElem?_eq_some_iff.mp hj).1
    refine ⟨vs[j]'(by omega), by simp [show j < vs.length by omega], ?_⟩
    apply List.mem_of_getElem? (i := j)
    rw [List.getElem?_zip_eq_some]
    exact ⟨List.getElem?_eq_getElem _, hj⟩
theorem rg_ix : RG2 K (rIx K) gIx := by
  intro S H L x y ox oy oz Q w e k
  unfold gIx at e
  split at e
  · rename_i ds i hx
    obtain ⟨d, hd, rfl⟩ := Option.map_eq_some_iff.mp e
    obtain ⟨a, vs, rfl, ha, hl, hr⟩ := w.at1.lst w.le hx
    cases w.at0.st
    obtain ⟨v, hv, hm⟩ := atI_zip hl hd
    exact .inl ⟨a, vs, i, v, rfl, rfl, SqL.of ha, hv, k v S H (ex_refl S) (w.push (RpI.all.mp hr _ hm))⟩
  · rename_i ds i hx
    obtain ⟨d, hd, rfl⟩ := Option.map_eq_some_iff.mp e
    obtain ⟨a, vs, rfl, ha, hl, hr⟩ := w.at1.tup w.le hx
    cases w.at0.st
    obtain ⟨v, hv, hm⟩ := atI_zip hl hd
    exact .inr (.inl ⟨a, vs, i, v, rfl, rfl, SqT.of (w.le _ _ ha), hv, k v S H (ex_refl S) (w.push (RpI.all.mp hr _ hm))⟩)
  · rename_i ds i hx
    obtain ⟨d, hd, rfl⟩ := Option.map_eq_some_iff.mp e
    cases w.at1.plain hx (by simp) (by simp) (by simp) with
    | kt ha hl hr _ =>
      cases w.at0.st
      obtain ⟨v, hv, hm⟩ := atI_zip hl hd
      exact .inr (.inl ⟨_, _, i, v, rfl, rfl, ex_t w.le ha, hv, k v S H (ex_refl S) (w.push (RpI.all.mp hr _ hm))⟩)
  · rename_i ns i hx
    obtain ⟨n, hn, rfl⟩ := Option.map_eq_some_iff.mp e
    cases w.at1.plain hx (by simp) (by simp) (by simp) with
    | scr ha _ =>
      cases w.at0.st
      refine .inl ⟨_, _, i, .int n, rfl, rfl, ex_l w.le ha, ?_, k _ S H (ex_refl S) (w.push (.int .nil))⟩
      unfold atI at hn ⊢
      rw [List.length_map]
      cases q : ixN ns.length i with
      | none => rw [q] at hn; cases hn
      | some j => rw [q] at hn; simp only [Option.bind_some] at hn ⊢; rw [List.getElem?_map, hn]; rfl
  · rename_i z i hx
    split at e
    · rename_i hb
      obtain ⟨c, hc, rfl⟩ := Option.map_eq_some_iff.mp e
      cases w.at1.plain hx (by simp) (by simp) (by simp)
      cases w.at0.st
      exact .inr (.inr ⟨z, i, c, rfl, rfl, big_le hb, hc, k _ S H (ex_refl S) (w.push (.str .nil))⟩)
    · cases e
  · cases e
theorem se_ix (ha : SO X pin a ta oa) (hb : SO X pin b tb ob) (hs : PlainIx b := by exact fun _ _ => rfl) (hK : X.K = K := by rfl) : SE X pin (.Subscript a b pos) (tOp (rIx K) ta tb) (fBin gIx oa ob) := by subst hK; exact ⟨pe_ix ix_seq ha.pe hb.pe hs, re_bin ha.rd hb.rd rg_ix⟩
/-! ### slices -/
abbrev Fp := Rho → Option (Option Int × Rho)
def RP (K : PySem.W.Frag) (pin : List (Option V)) (t : TO) (f : Fp) : Prop := ∀ S H T ρ σ F Q o ρ', Sat K pin S H T ρ σ F → f ρ = some (o, ρ') → (∀ S' H', Ex S S' → Sat K pin S' H' T ρ' σ F → Q o H') → t σ H Q
structure SP_ (X : Cx) (pin : List (Option V)) (e : Option Expr) (t : TO) (f : Fp) : Prop where
  pe : PO X e t
  rd : RP X.K pin t f
def fNoPart : Fp := fun ρ => some (none, ρ)
def fPart (f : Fe) : Fp := fun ρ => match f ρ with
  | some (.st (.int i), ρ1) => some (some i, ρ1)
  | _ => none
theorem sp_none : SP_ X pin none tNoPart fNoPart := ⟨po_none, by
  intro S H T ρ σ F Q o ρ' w e k
  cases e
  exact k S H (ex_refl S) w⟩
theorem sp_some (h : SE X pin e t f) : SP_ X pin (some e) (tPart t) (fPart f) := ⟨po_some h.pe, by
  intro S H T ρ σ F Q o ρ' w q k
  unfold fPart at q
  split at q
  · rename_i i ρ1 q1
    cases q
    refine h.rd S H T ρ σ F _ _ _ w q1 fun v S' H' x w' => ?_
    cases w'.known
    exact ⟨i, rfl, k S' H' x w'.tl⟩
  · cases q⟩
def cutD (xs : List D) (lo hi : Option Int) : List D := (xs.drop (HT.sIx xs.length 0 lo)).take (HT.sIx xs.length xs.length hi - HT.sIx xs.length 0 lo)
def gSl (o : OD) (lo hi : Option Int) : Option OD := match o.rd with
  | some (.lst ds) => some (.ol ((cutD ds lo hi).map .st))
  | some (.tup ds) => if HT.sIx ds.length 0 lo = 0 ∧ HT.sIx ds.length ds.length hi = ds.length then none else some (.st (.tup (cutD ds lo hi)))
  | some (.str z) => if z.length ≤ big then some (.st (.str (cutS z lo hi))) else none
  | _ => none
def rSlQ (K : PySem.W.Frag) : V → Option Int → Option Int → Hp → VK → Prop := fun x lo hi H Q => rSlL K x lo hi H Q ∨ (rSlT K x lo hi H Q ∨ rSlS x lo hi H Q)
theorem cut_zip {vs : List V} {ds : List D} (hl : vs.length = ds.length) (lo hi : Option Int) : (cutV vs lo hi).zip (cutD ds lo hi) = (((vs.zip ds).drop (HT.sIx ds.length 0 lo)).take (HT.sIx ds.length ds.length hi - HT.sIx ds.length 0 lo)) := by
  unfold cutV cutD
  rw [hl]
  simp only [List.zip, List.drop_zipWith, List.take_zipWith]
theorem cut_len {vs : List V} {ds : List D} (hl : vs.length = ds.length) (lo hi : Option Int) : (cutV vs lo hi).length = (cutD ds lo hi).length := by
  unfold cutV cutD
  simp [hl]
def fSl (a : Fo) (lo hi : Fp) : Fe := fun ρ => match a.1 ρ with
  | some (o, ρ1) => (match lo ρ1 with
    | some (l, ρ2) => (match hi ρ2 with
      | some (h, ρ3) => (match gSl o l h with
        | some oz => some (oz, a.2 o ρ3)
        | none => none)
      | none => none)
    | none => none)
  | none => none
theorem re_sl {tl th : TO} {fl fh : Fp} (ha : RO K pin ta oa) (hl : RP K pin tl fl) (hh : RP K pin th fh) : RE K pin (tSl (rSlQ K) ta tl th) (fSl oa fl fh) := by
  intro S H T ρ σ F Q od ρ' w e k
  unfold fSl at e
  split at e
  · rename_i o ρ1 q1
    split at e
    · rename_i l ρ2 q2
      split at e
      · rename_i h ρ3 q3
        split at e
        · rename_i oz q4
          cases e
          refine ha S H T ρ σ F _ o ρ1 w q1 fun x S1 H1 e1 w1 rs1 => ?_
          refine hl S1 H1 _ ρ1 σ F _ l ρ2 w1 q2 fun S2 H2 e2 w2 => ?_
          refine hh S2 H2 _ ρ2 σ F _ h ρ3 w2 q3 fun S3 H3 e3 w3 => ?_
          have fin : ∀ v S' H', Ex S3 S' → Own K S' H' [] ((v, od) :: (x, o) :: (T ++ (its ρ3 σ ++ F))) → Q v H' := fun v S' H' e4 o4 => by
            have z : Sat K pin S' H' ((x, o) :: (v, od) :: T) ρ3 σ F := w3.with (o4.perm (.swap _ _ _))
            exact k v S' H' (ex_trans e1 (ex_trans e2 (ex_trans e3 e4))) (rs1 _ _ _ _ _ z)
          have w3o : Own K S3 H3 [] ((x, o) :: (T ++ (its ρ3 σ ++ F))) := w3.own
          unfold gSl at q4
          split at q4
          · rename_i ds hx
            cases q4
            obtain ⟨ad, vs, rfl, hA, hL, hr⟩ := w3o.at0.lst w3o.le hx
            refine .inl ⟨ad, vs, rfl, SqL.of hA, fun p hp => fin _ S3 _ (ex_refl S3) (Own.newS w3o ?_ (cut_len hL l h) hp)⟩
            rw [cut_zip hL]
            exact hr.sub fun p hp => List.mem_of_mem_drop (List.mem_of_mem_take hp)
          · rename_i ds hx
            split at q4
            · cases q4
            · rename_i hn
              cases q4
              obtain ⟨ad, vs, rfl, hA, hL, hr⟩ := w3o.at0.tup w3o.le hx
              refine .inr (.inl ⟨ad, vs, rfl, SqT.of (w3o.le _ _ hA), by rw [hL]; exact hn, fun p hp => ?_⟩)
              obtain ⟨e5, o5⟩ := Own.newT (ds := cutD ds l h) w3o (by rw [cut_zip hL]; exact hr.sub fun p hp => List.mem_of_mem_drop (List.mem_of_mem_take hp)) (cut_len hL l h) hp
              exact fin _ _ _ e5 o5
          · rename_i z hx
            split at q4
            · rename_i hb
              cases q4
              cases w3o.at0.plain hx (by simp) (by simp) (by simp)
              exact .inr (.inr ⟨z, rfl, big_le hb, fin _ S3 H3 (ex_refl S3) (w3o.push (.str .nil))⟩)
            · cases q4
          · cases q4
        · cases e
      · cases e
    · cases e
  · cases e
theorem se_sl {lo hi : Option Expr} {tl th : TO} {fl fh : Fp} {p2 : Pos} (ha : SO X pin a ta oa) (hl : SP_ X pin lo tl fl) (hh : SP_ X pin hi th fh) (hK : X.K = K := by rfl) : SE X pin (.Subscript a (.Slice lo hi none p2) pos) (tSl (rSlQ K) ta tl th) (fSl oa fl fh) := by
  subst hK; exact ⟨pe_slice (sl_list.or (sl_tup.or sl_str)) ha.pe hl.pe hh.pe, re_sl ha.rd hl.rd hh.rd⟩
/-! ### built-ins by their names -/
theorem se_b1 {x : Str} {id : String} {r : List V → Hp → VK → Prop} {g : OD → Option OD} (hc : CallR X (.builtin id) r) (hr : RG1 X.K (fun x H Q => r [x] H Q) g) (hm : X.mg x = none) (hv : bootBuiltins x = some (.builtin id)) (ha : SO X pin a ta oa) (hg : Gl X x := by rfl) (hn : x ≠ "__name__" := by decide) (hdb : (x == ("__debug__" : Str)) = false := by decide)
    (hs : starEach [a] X.env = (false, eval a X.env) :: starEach [] X.env := by rfl) : SE X pin (.Call (.Name x p) [a] [] pos) (tCB r (tCons ta tNil)) (fUn g oa) := ⟨pe_callB hc hg hm hv (pa_cons ha.pe pa_nil hs) hn hdb hs rfl, re_cb1 ha.rd hr⟩
theorem se_b2 {x : Str} {id : String} {r : List V → Hp → VK → Prop} {g : OD → OD → Option OD} (hc : CallR X (.builtin id) r) (hr : RG2 X.K (fun x y H Q => r [x, y] H Q) g) (hm : X.mg x = none) (hv : bootBuiltins x = some (.builtin id)) (ha : SO X pin a ta oa) (hb : SO X pin b tb ob) (hg : Gl X x := by rfl) (hn : x ≠ "__name__" := by decide) (hdb : (x == ("__debug__" : Str)) = false := by decide)
    (hs : starEach [a, b] X.env = (false, eval a X.env) :: starEach [b] X.env := by rfl) (hs2 : starEach [b] X.env = (false, eval b X.env) :: starEach [] X.env := by rfl) (hpl : (backTo pos (starEach [b] X.env)).any (·.1) = false := by rfl) : SE X pin (.Call (.Name x p) [a, b] [] pos) (tCB r (tCons ta (tCons tb tNil))) (fBin g oa ob) :=
  ⟨pe_callB hc hg hm hv (pa_cons ha.pe (pa_cons hb.pe pa_nil hs2) hs) hn hdb hs hpl, re_cb2 ha.rd hb.rd hr⟩
theorem se_t1 {x : Str} {id : String} {r : List V → Hp → VK → Prop} {g : OD → Option OD} (hc : CallR X (.type id) r) (hr : RG1 X.K (fun x H Q => r [x] H Q) g) (hm : X.mg x = none) (hv : bootBuiltins x = some (.type id)) (ha : SO X pin a ta oa) (hg : Gl X x := by rfl) (hn : x ≠ "__name__" := by decide) (hdb : (x == ("__debug__" : Str)) = false := by decide)
    (hs : starEach [a] X.env = (false, eval a X.env) :: starEach [] X.env := by rfl) : SE X pin (.Call (.Name x p) [a] [] pos) (tCB r (tCons ta tNil)) (fUn g oa) := ⟨pe_callTy hc hg hm hv (pa_cons ha.pe pa_nil hs) hn hdb hs rfl, re_cb1 ha.rd hr⟩
/-! ### len -/
def gLen : OD → Option OD := fun a => match a.rd with
  | some (.lst ds) => some (.st (.int (ds.length : Nat)))
  | some (.tup ds) => some (.st (.int (ds.length : Nat)))
  | some (.kt ds) => some (.st (.int (ds.length : Nat)))
  | some (.scr ns) => some (.st (.int (ns.length : Nat)))
  | some (.str z) => if z.length ≤ big then some (.st (.int (z.length : Nat))) else none
  | _ => none
def rLenQ (K : PySem.W.Frag) : List V → Hp → VK → Prop := fun xs H Q => ∃ x n, xs = [x] ∧ LenV K x H n ∧ Q (.int n) H
theorem call_lenQ : CallR X (.builtin "len") (rLenQ X.K) := call_len
theorem rg_len : RG1 K (fun x H Q => rLenQ K [x] H Q) gLen := by
  intro S H L x ox oz Q w e k
  unfold gLen at e
  split at e
  · rename_i ds hx
    cases e
    obtain ⟨a, vs, rfl, ha, hl, hr⟩ := w.at0.lst w.le hx
    exact ⟨_, vs.length, rfl, .inl ⟨vs, SqL.of ha, rfl⟩, by rw [hl]; exact k _ S H (ex_refl S) (w.push (.int .nil))⟩
  · rename_i ds hx
    cases e
    obtain ⟨a, vs, rfl, ha, hl, hr⟩ := w.at0.tup w.le hx
    exact ⟨_, vs.length, rfl, .inr ⟨vs, SqT.of (w.le _ _ ha), rfl⟩, by rw [hl]; exact k _ S H (ex_refl S) (w.push (.int .nil))⟩
  · rename_i ds hx
    cases e
    cases w.at0.plain hx (by simp) (by simp) (by simp) with
    | kt ha hl hr _ => exact ⟨_, ds.length, rfl, .inr ⟨_, ex_t w.le ha, hl.symm⟩, k _ S H (ex_refl S) (w.push (.int .nil))⟩
  · rename_i ns hx
    cases e
    cases w.at0.plain hx (by simp) (by simp) (by simp) with
    | scr ha _ => exact ⟨_, ns.length, rfl, .inl ⟨_, ex_l w.le ha, by simp⟩, k _ S H (ex_refl S) (w.push (.int .nil))⟩
  · rename_i z hx
    split at e
    · rename_i hb
      cases e
      cases w.at0.plain hx (by simp) (by simp) (by simp)
      exact ⟨_, z.length, rfl, ⟨big_le hb, rfl⟩, k _ S H (ex_refl S) (w.push (.int .nil))⟩
    · cases e
  · cases e
/-! ### abs, max, min, int, divmod -/
def gAbs := gI fun i => some (.int (if i < 0 then -i else i))
def gMax2 := gII fun i j => some (.int (if j > i then j else i))
def gMin2 := gII fun i j => some (.int (if j < i then j else i))
def gInt := gI fun i => some (.int i)
theorem rg_abs : RG1 K (fun x H Q => (fun xs H Q => ∃ i, xs = [.int i] ∧ Q (.int (if i < 0 then -i else i)) H : List V → Hp → VK → Prop) [x] H Q) gAbs := rg_i fun i d h => by cases h; exact ⟨_, pl_int, fun H Q q => ⟨i, rfl, q⟩⟩
theorem rg_max2 : RG2 K (fun x y H Q => (fun xs H Q => ∃ i j, xs = [.int i, .int j] ∧ Q (.int (if j > i then j else i)) H : List V → Hp → VK → Prop) [x, y] H Q) gMax2 := rg_ii fun i j d h => by cases h; exact ⟨_, pl_int, fun H Q q => ⟨i, j, rfl, q⟩⟩
theorem rg_min2 : RG2 K (fun x y H Q => (fun xs H Q => ∃ i j, xs = [.int i, .int j] ∧ Q (.int (if j < i then j else i)) H : List V → Hp → VK → Prop) [x, y] H Q) gMin2 := rg_ii fun i j d h => by cases h; exact ⟨_, pl_int, fun H Q q => ⟨i, j, rfl, q⟩⟩
theorem rg_int : RG1 K (fun x H Q => (fun xs H Q => (∃ i, xs = [.int i] ∧ Q (.int i) H) ∨ ∃ k, xs = [.bl k] ∧ Q (.int (if k then 1 else 0)) H : List V → Hp → VK → Prop) [x] H Q) gInt := rg_i fun i d h => by cases h; exact ⟨_, pl_int, fun H Q q => .inl ⟨i, rfl, q⟩⟩
def gDivmod : OD → OD → Option OD
  | .st (.int i), .st (.int j) => if 0 < j ∧ j < 1073741824 then some (.st (.tup [.int (i / j), .int (i % j)])) else none
  | _, _ => none
theorem rg_divmod : RG2 K (fun x y H Q => (fun xs H Q => ∃ i j, xs = [.int i, .int j] ∧ CDiv i j ∧ ∀ p, H p = none → Q (.ref p) (upd H p (.tup [.int (i / j), .int (i % j)])) : List V → Hp → VK → Prop) [x, y] H Q) gDivmod := by
  intro S H L x y ox oy oz Q w e k
  unfold gDivmod at e
  split at e
  · rename_i i j
    split at e
    · rename_i c
      cases e
      cases w.at1.st
      cases w.at0.st
      refine ⟨i, j, rfl, c, fun p hp => ?_⟩
      obtain ⟨e1, o1⟩ := Own.newT (vs := [.int (i / j), .int (i % j)]) (ds := [.int (i / j), .int (i % j)]) w (.int (.int .nil)) rfl hp
      exact k _ _ _ e1 o1
    · cases e
  · cases e
/-! ### all, any, sum -/
def blsOf : List D → Option (List Bool)
  | [] => some []
  | .bl b :: r => (blsOf r).map (b :: ·)
  | _ :: _ => none
theorem blsOf_map : ∀ bs : List Bool, blsOf (bs.map .bl) = some bs
  | [] => rfl
  | b :: r => by simp [blsOf, blsOf_map r]
theorem blsOf_eq : ∀ {ds : List D} {bs : List Bool}, blsOf ds = some bs → ds = bs.map .bl
  | [], bs, h => by cases h; rfl
  | .bl i :: r, bs, h => by
    simp only [blsOf, Option.map_eq_some_iff] at h
    obtain ⟨e, h1, rfl⟩ := h
    rw [blsOf_eq h1]; rfl
  | .non :: _, _, h | .int _ :: _, _, h | .str _ :: _, _, h | .lst _ :: _, _, h | .tup _ :: _, _, h | .dK _ :: _, _, h | .dT _ :: _, _, h | .ins _ _ :: _, _, h | .raw _ :: _, _, h | .scr _ :: _, _, h | .kt _ :: _, _, h | .dF _ :: _, _, h => by cases h
theorem rp_bls {S : Hp} : ∀ {vs : List V} {bs : List Bool}, vs.length = bs.length → RpI K S (vs.zip (bs.map .bl)) → vs = bs.map V.bl
  | [], [], _, _ => rfl
  | [], _ :: _, h, _ => by cases h
  | _ :: _, [], h, _ => by cases h
  | v :: vs, n :: bs, h, r => by
    simp only [List.map_cons, List.zip_cons_cons] at r
    have := rp_bls (by simpa using h) r.tail
    subst this
    cases r.head
    rfl
def gAll : OD → Option OD := fun a => match a.rd with
  | some (.lst ds) => (blsOf ds).map fun bs => .st (.bl (bs.all id))
  | _ => none
def gAny : OD → Option OD := fun a => match a.rd with
  | some (.lst ds) => (blsOf ds).map fun bs => .st (.bl (bs.any id))
  | _ => none
def gSum : OD → Option OD := fun a => match a.rd with
  | some (.lst ds) => (intsOf ds).map fun ns => .st (.int ns.sum)
  | _ => none
theorem at_bls {x : V} {o : OD} {ds : List D} {bs : List Bool} (h : At K S H x o) (le : Ex S H) (r : o.rd = some (.lst ds)) (hb : blsOf ds = some bs) : ∃ a, x = .ref a ∧ SqL K H a (bs.map V.bl) := by
  obtain ⟨a, vs, rfl, ha, hl, hr⟩ := h.lst le r
  rw [blsOf_eq hb] at hl hr
  have := rp_bls (by simpa using hl) hr
  subst this
  exact ⟨a, rfl, SqL.of ha⟩
theorem rg_all : RG1 K (fun x H Q => rAll K [x] H Q) gAll := by
  intro S H L x ox oz Q w e k
  unfold gAll at e
  split at e
  · rename_i ds hx
    obtain ⟨bs, hb, rfl⟩ := Option.map_eq_some_iff.mp e
    obtain ⟨a, rfl, hs⟩ := at_bls w.at0 w.le hx hb
    exact ⟨a, bs, rfl, hs, k _ S H (ex_refl S) (w.push (.bl .nil))⟩
  · cases e
theorem rg_any : RG1 K (fun x H Q => rAny K [x] H Q) gAny := by
  intro S H L x ox oz Q w e k
  unfold gAny at e
  split at e
  · rename_i ds hx
    obtain ⟨bs, hb, rfl⟩ := Option.map_eq_some_iff.mp e
    obtain ⟨a, rfl, hs⟩ := at_bls w.at0 w.le hx hb
    exact ⟨a, bs, rfl, hs, k _ S H (ex_refl S) (w.push (.bl .nil))⟩
  · cases e
theorem rg_sum : RG1 K (fun x H Q => rSum K [x] H Q) gSum := by
  intro S H L x ox oz Q w e k
  unfold gSum at e
  split at e
  · rename_i ds hx
    obtain ⟨ns, hb, rfl⟩ := Option.map_eq_some_iff.mp e
    obtain ⟨a, vs, rfl, ha, hl, hr⟩ := w.at0.lst w.le hx
    rw [ints_eq hb] at hl hr
    have := rp_ints (by simpa using hl) hr
    subst this
    exact ⟨a, ns, rfl, SqL.of ha, k _ S H (ex_refl S) (w.push (.int .nil))⟩
  · cases e
/-! ### list(x), tuple(x) -/
def gList : OD → Option OD := fun a => match a.rd with
  | some (.lst ds) => some (.ol (ds.map .st))
  | some (.tup ds) => some (.ol (ds.map .st))
  | _ => none
def rListQ (K : PySem.W.Frag) : List V → Hp → VK → Prop := fun xs H Q => ∃ p ys, xs = [.ref p] ∧ (SqL K H p ys ∨ SqT K H p ys) ∧ ∀ l, H l = none → Q (.ref l) (upd H l (.lst ys))
theorem call_listQ : CallR X (.type "list") (rListQ X.K) := call_list_of
theorem rg_list : RG1 K (fun x H Q => rListQ K [x] H Q) gList := by
  intro S H L x ox oz Q w e k
  unfold gList at e
  split at e
  · rename_i ds hx
    cases e
    obtain ⟨a, vs, rfl, ha, hl, hr⟩ := w.at0.lst w.le hx
    exact ⟨a, vs, rfl, .inl (SqL.of ha), fun l h0 => k _ S _ (ex_refl S) (Own.newS w hr hl h0)⟩
  · rename_i ds hx
    cases e
    obtain ⟨a, vs, rfl, ha, hl, hr⟩ := w.at0.tup w.le hx
    exact ⟨a, vs, rfl, .inr (SqT.of (w.le _ _ ha)), fun l h0 => k _ S _ (ex_refl S) (Own.newS w hr hl h0)⟩
  · cases e
def gTuple : OD → Option OD := fun a => match a.rd with
  | some (.lst ds) => some (.st (.tup ds))
  | some (.tup ds) => some (.st (.tup ds))
  | _ => none
def rTupleQ (K : PySem.W.Frag) : List V → Hp → VK → Prop := fun xs H Q => ∃ p ys, xs = [.ref p] ∧ ((SqL K H p ys ∧ ∀ l, H l = none → Q (.ref l) (upd H l (.tup ys))) ∨ (SqT K H p ys ∧ Q (.ref p) H))
theorem call_tupleQ : CallR X (.type "tuple") (rTupleQ X.K) := call_tuple_of
theorem rg_tuple : RG1 K (fun x H Q => rTupleQ K [x] H Q) gTuple := by
  intro S H L x ox oz Q w e k
  unfold gTuple at e
  split at e
  · rename_i ds hx
    cases e
    obtain ⟨a, vs, rfl, ha, hl, hr⟩ := w.at0.lst w.le hx
    refine ⟨a, vs, rfl, .inl ⟨SqL.of ha, fun l h0 => ?_⟩⟩
    obtain ⟨e1, o1⟩ := Own.newT w hr hl h0
    exact k _ _ _ e1 o1
  · rename_i ds hx
    cases e
    obtain ⟨a, vs, rfl, ha, hl, hr⟩ := w.at0.tup w.le hx
    exact ⟨a, vs, rfl, .inr ⟨SqT.of (w.le _ _ ha), k _ S H (ex_refl S) (w.push (.tup ha hl hr .nil))⟩⟩
  · cases e
end
end Qy
set_option Elab.async false
set_option linter.all false
set_option maxRecDepth 100000
set_option maxHeartbeats 400000
namespace Qy
open PySem PySem.Spec PyProof.Rows L2
section
variable {X : Cx} {pin : List (Option V)} {K : PySem.W.Frag} {S H : Hp} {e a b : Expr} {t ta tb : TE} {f : Fe} {oa ob : Fo} {pos p apos : Pos} {es : List Expr} {tt : TA} {ff : Fa}
/-! ### isinstance of built-in classes -/
def tyN : D → Option String
  | .non => some "NoneType"
  | .bl _ => some "bool"
  | .int _ => some "int"
  | .str _ => some "str"
  | .lst _ => some "list"
  | .tup _ => some "tuple"
  | .dK _ => some "dict"
  | .dT _ => some "dict"
  | .dF _ => some "dict"
  | _ => none
theorem At.ty {x : V} {o : OD} {d : D} {n : String} (h : At K S H x o) (le : Ex S H) (r : o.rd = some d) (hn : tyN d = some n) : TyX K H x (.type n) := by
  cases d with
  | lst ds => cases hn; obtain ⟨a, vs, rfl, ha, _⟩ := h.lst le r; exact .base (.lst ha)
  | tup ds => cases hn; obtain ⟨a, vs, rfl, ha, _⟩ := h.tup le r; exact .base (.tup (le _ _ ha))
  | dK ds => cases hn; obtain ⟨a, vs, rfl, ha, _⟩ := h.dK le r; exact .base (.dK ha)
  | dT ds => cases hn; obtain ⟨a, vs, rfl, ha, _⟩ := h.dT le r; exact .base (.dT ha)
  | dF ds => cases hn; obtain ⟨a, od, vs, rfl, ha, _⟩ := h.dF le r; exact .fDict ha
  | non => cases hn; cases h.plain r (by simp) (by simp) (by simp); exact .base .non
  | bl b => cases hn; cases h.plain r (by simp) (by simp) (by simp); exact .base (.bl _)
  | int i => cases hn; cases h.plain r (by simp) (by simp) (by simp); exact .base (.int _)
  | str z => cases hn; cases h.plain r (by simp) (by simp) (by simp); exact .base (.str _)
  | ins _ _ => cases hn
  | raw _ => cases hn
  | scr _ => cases hn
  | kt _ => cases hn
def gIsi : OD → OD → Option OD := fun a b => match a.rd.bind tyN, b with
  | some n, .st (.raw (.ty T)) => (kitB n T).map fun r => .st (.bl r)
  | _, _ => none
theorem rg_isi : RG2 K (fun x y H Q => rIsi K [x, y] H Q) gIsi := by
  intro S H L x y ox oy oz Q w e k
  unfold gIsi at e
  split at e
  · rename_i n T hx
    obtain ⟨r, hr, rfl⟩ := Option.map_eq_some_iff.mp e
    obtain ⟨d, hd, hn⟩ := Option.bind_eq_some_iff.mp hx
    cases w.at0.st
    exact ⟨x, .ty T, .type n, .type T, r, rfl, .ty T, w.at1.ty w.le hd hn, kit_ty hr, k _ S H (ex_refl S) (w.push (.bl .nil))⟩
  · cases e
/-- isinstance(x, (list, tuple)) -/
def gIsi2 : OD → OD → Option OD := fun a b => match a.rd.bind tyN, b with
  | some n, .st (.tup [.raw (.ty T), .raw (.ty U)]) => (match kitB n T, kitB n U with
    | some r, some s => some (.st (.bl (r || s)))
    | _, _ => none)
  | _, _ => none
theorem rg_isi2 : RG2 K (fun x y H Q => rIsiT K [x, y] H Q) gIsi2 := by
  intro S H L x y ox oy oz Q w e k
  unfold gIsi2 at e
  split at e
  · rename_i n T U hx
    split at e
    · rename_i r s h1 h2
      cases e
      obtain ⟨d, hd, hn⟩ := Option.bind_eq_some_iff.mp hx
      obtain ⟨ad, vs, rfl, ha, hl, hr⟩ := w.at0.tup w.le rfl
      match vs, hl with
      | [v1, v2], _ =>
        simp only [List.zip_cons_cons] at hr
        cases hr.head
        cases hr.tail.head
        refine ⟨x, ad, [.ty T, .ty U], .type n, [.type T, .type U], r || s, rfl, w.le _ _ ha, .cons (.ty T) (.cons (.ty U) .nil), w.at1.ty w.le hd hn, ?_, k _ S H (ex_refl S) (w.push (.bl .nil))⟩
        refine kitAny_cons (kit_ty h1) (fun hf => ?_) fun ht => by rw [ht]; rfl
        refine kitAny_cons (kit_ty h2) (fun hf2 => ?_) fun ht => by rw [hf, ht]; rfl
        rw [hf, hf2]
        rfl
    · cases e
  · cases e
/-! ### in -/
def scOf : D → Option V
  | .non => some .non
  | .bl b => some (.bl b)
  | .int i => some (.int i)
  | .str x => some (.str x)
  | _ => none
def scAll : List D → Option (List V)
  | [] => some []
  | d :: ds => match scOf d, scAll ds with
    | some v, some vs => some (v :: vs)
    | _, _ => none
theorem sc_rp {x : V} {d : D} {v : V} (h : Rp K S x d) (hv : scOf d = some v) : x = v ∧ flatV v = true := by
  cases d <;> simp only [scOf] at hv <;> cases hv <;> cases h <;> exact ⟨rfl, rfl⟩
theorem scs_rp : ∀ {xs : List V} {ds : List D} {vs : List V}, xs.length = ds.length → RpI K S (xs.zip ds) → scAll ds = some vs → xs = vs ∧ vs.all flatV = true
  | [], [], vs, _, _, h => by cases h; exact ⟨rfl, rfl⟩
  | [], _ :: _, _, h, _, _ => by cases h
  | _ :: _, [], _, h, _, _ => by cases h
  | x :: xs, d :: ds, vs, hl, r, h => by
    simp only [List.zip_cons_cons] at r
    simp only [scAll] at h
    split at h
    · rename_i v us h1 h2
      cases h
      obtain ⟨rfl, f1⟩ := sc_rp r.head h1
      obtain ⟨rfl, f2⟩ := scs_rp (by simpa using hl) r.tail h2
      exact ⟨rfl, by simp [f1, f2]⟩
    · cases h
def gInF (neg : Bool) : OD → OD → Option OD := fun a b => match a.rd.bind scOf, b.rd with
  | some x, some (.lst ds) => (scAll ds).map fun vs => .st (.bl (if neg then !inV x vs else inV x vs))
  | some x, some (.tup ds) => (scAll ds).map fun vs => .st (.bl (if neg then !inV x vs else inV x vs))
  | some x, some (.kt ds) => (scAll ds).map fun vs => .st (.bl (if neg then !inV x vs else inV x vs))
  | _, _ => none
theorem at_sc {x : V} {o : OD} {v : V} (h : At K S H x o) (hv : o.rd.bind scOf = some v) : x = v ∧ flatV v = true := by
  obtain ⟨d, hd, hs⟩ := Option.bind_eq_some_iff.mp hv
  refine sc_rp (h.plain hd ?_ ?_ ?_) hs <;> intro ds z <;> subst z <;> cases hs
theorem rg_inF {neg : Bool} : RG2 K (rIn K neg) (gInF neg) := by
  intro S H L x y ox oy oz Q w e k
  unfold gInF at e
  split at e
  · rename_i v ds hx hy
    obtain ⟨vs, hv, rfl⟩ := Option.map_eq_some_iff.mp e
    obtain ⟨rfl, f1⟩ := at_sc w.at1 hx
    obtain ⟨ad, us, rfl, ha, hl, hr⟩ := w.at0.lst w.le hy
    obtain ⟨rfl, f2⟩ := scs_rp hl hr hv
    exact ⟨ad, us, rfl, .inl (SqL.of ha), f1, f2, k _ S H (ex_refl S) (w.push (.bl .nil))⟩
  · rename_i v ds hx hy
    obtain ⟨vs, hv, rfl⟩ := Option.map_eq_some_iff.mp e
    obtain ⟨rfl, f1⟩ := at_sc w.at1 hx
    obtain ⟨ad, us, rfl, ha, hl, hr⟩ := w.at0.tup w.le hy
    obtain ⟨rfl, f2⟩ := scs_rp hl hr hv
    exact ⟨ad, us, rfl, .inr (SqT.of (w.le _ _ ha)), f1, f2, k _ S H (ex_refl S) (w.push (.bl .nil))⟩
  · rename_i v ds hx hy
    obtain ⟨vs, hv, rfl⟩ := Option.map_eq_some_iff.mp e
    obtain ⟨rfl, f1⟩ := at_sc w.at1 hx
    cases w.at0.plain hy (by simp) (by simp) (by simp) with
    | kt ha hl hr _ =>
      obtain ⟨rfl, f2⟩ := scs_rp hl hr hv
      exact ⟨_, _, rfl, .inr (ex_t w.le ha), f1, f2, k _ S H (ex_refl S) (w.push (.bl .nil))⟩
  · cases e
/-- one sign in a text -/
def gInS : OD → OD → Option OD := gSS fun i j => match i.cps.toList with
  | [c] => some (.bl (decide (c ∈ j.cps.toList)))
  | _ => none
def rInS : R2 := fun x y H Q => ∃ (c : Nat) (z : Str), x = .str ⟨#[c]⟩ ∧ y = .str z ∧ Q (.bl (decide (c ∈ z.cps.toList))) H
theorem op_inS : OpR X (compareOp .In) rInS := op_in_sign
theorem rg_inS : RG2 K rInS gInS := rg_ss fun i j d h => by
  split at h
  · rename_i c hc
    cases h
    have : i = ⟨#[c]⟩ := by
      cases i with
      | mk cps =>
        have : cps = #[c] := by
          apply Array.toList_inj.mp
          simpa using hc
        rw [this]
    subst this
    exact ⟨_, pl_bl, fun H Q q => ⟨c, j, rfl, rfl, q⟩⟩
  · cases h
def rInQ (K : PySem.W.Frag) : R2 := fun x y H Q => rInS x y H Q ∨ (rIn K false x y H Q ∨ rInD K x y H Q)
theorem op_inQ (hu : X.A.units + 65 < cLine) : OpR X (compareOp .In) (rInQ X.K) := OpR.or op_inS (OpR.or op_in_seq (op_inD hu))
def gInQ := gOr2 gInS (gOr2 (gInF false) gIn)
theorem rg_inQ : RG2 K (rInQ K) gInQ := rg_inS.or (rg_inF.or rg_in)
def rNotInQ (K : PySem.W.Frag) : R2 := fun x y H Q => rIn K true x y H Q ∨ rNotInD K x y H Q
theorem op_notInQ (hu : X.A.units + 65 < cLine) : OpR X (compareOp .NotIn) (rNotInQ X.K) := OpR.or op_notIn_seq (op_notInD hu)
def gNotInQ := gOr2 (gInF true) gNotIn
theorem rg_notInQ : RG2 K (rNotInQ K) gNotInQ := rg_inF.or rg_notIn
/-! ### join -/
def strsOf : List D → Option (List Str)
  | [] => some []
  | .str x :: r => (strsOf r).map (x :: ·)
  | _ :: _ => none
theorem strsOf_map : ∀ xs : List Str, strsOf (xs.map .str) = some xs
  | [] => rfl
  | n :: r => by simp [strsOf, strsOf_map r]
theorem strsOf_eq : ∀ {ds : List D} {xs : List Str}, strsOf ds = some xs → ds = xs.map .str
  | [], bs, h => by cases h; rfl
  | .str i :: r, bs, h => by
    simp only [strsOf, Option.map_eq_some_iff] at h
    obtain ⟨e, h1, rfl⟩ := h
    rw [strsOf_eq h1]; rfl
  | .non :: _, _, h | .int _ :: _, _, h | .bl _ :: _, _, h | .lst _ :: _, _, h | .tup _ :: _, _, h | .dK _ :: _, _, h | .dT _ :: _, _, h | .ins _ _ :: _, _, h | .raw _ :: _, _, h | .scr _ :: _, _, h | .kt _ :: _, _, h | .dF _ :: _, _, h => by cases h
theorem rp_strs {S : Hp} : ∀ {vs : List V} {xs : List Str}, vs.length = xs.length → RpI K S (vs.zip (xs.map .str)) → vs = xs.map V.str
  | [], [], _, _ => rfl
  | [], _ :: _, h, _ => by cases h
  | _ :: _, [], h, _ => by cases h
  | v :: vs, n :: bs, h, r => by
    simp only [List.map_cons, List.zip_cons_cons] at r
    have := rp_strs (by simpa using h) r.tail
    subst this
    cases r.head
    rfl
def gJoin : OD → OD → Option OD := fun a b => match a, b.rd with
  | .st (.str z), some (.lst ds) => (match strsOf ds with
    | some ys => if (ys.map (·.length)).sum + ys.length * z.length ≤ big then some (.st (.str (Txt.join z ys))) else none
    | none => none)
  | .st (.str z), some (.tup ds) => (match strsOf ds with
    | some ys => if (ys.map (·.length)).sum + ys.length * z.length ≤ big then some (.st (.str (Txt.join z ys))) else none
    | none => none)
  | _, _ => none
def rJoinQ (K : PySem.W.Frag) : V → List V → Hp → VK → Prop := fun x xs H Q => ∃ a p, ∃ ys : List Str, x = .str a ∧ xs = [.ref p] ∧ (SqL K H p (ys.map V.str) ∨ SqT K H p (ys.map V.str)) ∧ (ys.map (·.length)).sum + ys.length * a.length ≤ 16777216 ∧ Q (.str (Txt.join a ys)) H
theorem re_join (ha : RO K pin ta oa) (hb : RO K pin tb ob) : RE K pin (tM1 (rJoinQ K) ta tb) (fBin gJoin oa ob) := by
  intro S H T ρ σ F Q od ρ' w e k
  unfold fBin at e
  split at e
  · rename_i ox ρ1 q1
    split at e
    · rename_i oy ρ2 q2
      split at e
      · rename_i oz q3
        cases e
        refine ha S H T ρ σ F _ ox ρ1 w q1 fun x S1 H1 e1 w1 rs1 => ?_
        have hx : ∃ z, x = .str z ∧ ox = .st (.str z) := by
          unfold gJoin at q3
          split at q3
          · rename_i z _ _; cases w1.known; exact ⟨z, rfl, rfl⟩
          · rename_i z _ _; cases w1.known; exact ⟨z, rfl, rfl⟩
          · cases q3
        obtain ⟨z, rfl, rfl⟩ := hx
        refine ⟨⟨z, rfl⟩, hb S1 H1 _ ρ1 σ F _ oy ρ2 w1 q2 fun y S2 H2 e2 w2 rs2 => ?_⟩
        have fin : ∀ v : Str, od = .st (.str v) → Q (.str v) H2 := fun v hv => by
          subst hv
          have o3 : Own K S2 H2 [] ((V.str v, .st (.str v)) :: (y, oy) :: (V.str z, .st (.str z)) :: (T ++ (its ρ2 σ ++ F))) := w2.own.push (.str .nil)
          have zz : Sat K pin S2 H2 ((y, oy) :: (V.str z, .st (.str z)) :: (V.str v, .st (.str v)) :: T) ρ2 σ F := w2.with (o3.perm perm3)
          exact k _ S2 H2 (ex_trans e1 e2) (rs1 _ _ _ _ _ (rs2 _ _ _ _ _ zz))
        have w2o : Own K S2 H2 [] ((y, oy) :: (V.str z, .st (.str z)) :: (T ++ (its ρ2 σ ++ F))) := w2.own
        simp only [gJoin] at q3
        split at q3
        · rename_i z' ds hz hy
          cases hz
          split at q3
          · rename_i ys hs
            split at q3
            · rename_i hb'
              cases q3
              obtain ⟨ad, vs, rfl, hA, hl, hr⟩ := w2o.at0.lst w2o.le hy
              rw [strsOf_eq hs] at hl hr
              have := rp_strs (by simpa using hl) hr
              subst this
              exact ⟨z, ad, ys, rfl, rfl, .inl (SqL.of hA), Nat.le_trans hb' (by decide), fin _ rfl⟩
            · cases q3
          · cases q3
        · rename_i z' ds hz hy
          cases hz
          split at q3
          · rename_i ys hs
            split at q3
            · rename_i hb'
              cases q3
              obtain ⟨ad, vs, rfl, hA, hl, hr⟩ := w2o.at0.tup w2o.le hy
              rw [strsOf_eq hs] at hl hr
              have := rp_strs (by simpa using hl) hr
              subst this
              exact ⟨z, ad, ys, rfl, rfl, .inr (SqT.of (w2o.le _ _ hA)), Nat.le_trans hb' (by decide), fin _ rfl⟩
            · cases q3
          · cases q3
        · cases q3
      · cases e
    · cases e
  · cases e
theorem se_join (ha : SO X pin a ta oa) (hb : SO X pin b tb ob) (hs : starEach [b] X.env = [(false, eval b X.env)] := by rfl) (hbase : attributeBase a "join" X.env (eval a X.env) = eval a X.env := by rfl) (hline : (apos.endLine == pos.line) = true := by rfl)
    (hK : X.K = K := by rfl) : SE X pin (.Call (.Attribute a "join" apos) [b] [] pos) (tM1 (rJoinQ K) ta tb) (fBin gJoin oa ob) := by subst hK; exact ⟨pe_join ha.pe hb.pe hs hbase hline, re_join ha.rd hb.rd⟩
/-! ### a list in a slot is changed by its methods -/
def fAppend (i : Nat) (f : Fe) : Fe := fun ρ => match ρ[i]? with
  | some (some (.ol _)) => (match f ρ with
    | some (o, ρ1) => (match ρ1[i]? with
      | some (some (.ol os)) => if os.length ≤ big then some (.st .non, ρ1.set i (some (.ol (os ++ [o])))) else none
      | _ => none)
    | none => none)
  | _ => none
theorem sat_list {T F : List It} {ρ : Rho} {σ : L2.St} {i : Nat} {os : List OD} (w : Sat K pin S H T ρ σ F) (ho : ρ[i]? = some (some (.ol os))) : ∃ p vs, σ[i]? = some (some (.ref p)) ∧ H p = some (.lst vs) ∧ vs.length = os.length ∧ Sat K pin S H ((.ref p, .ol os) :: T) (ρ.set i none) σ F := by
  obtain ⟨v, hv, w1⟩ := w.take ho
  have o1 : Own K S H [] ((v, .ol os) :: (T ++ (its (ρ.set i none) σ ++ F))) := w1.own
  obtain ⟨fp, q⟩ := o1.at0
  cases q with
  | ol a l _ _ => exact ⟨_, _, hv, a, l, w1⟩
theorem re_append {i : Nat} (h : RE K pin t f) : RE K pin (tBM K "list" rAppend (tVar i) (tCons t tNil)) (fAppend i f) := by
  intro S H T ρ σ F Q od ρ' w e k
  unfold fAppend at e
  split at e
  · rename_i os0 h0
    obtain ⟨p0, vs0, hv0, hp0, _, _⟩ := sat_list w h0
    split at e
    · rename_i o ρ1 q1
      split at e
      · rename_i os h1
        split at e
        · rename_i hb
          cases e
          refine ⟨.ref p0, hv0, .inl ⟨rfl, vs0, SqL.of hp0⟩, h S H T ρ σ F _ o ρ1 w q1 fun v S1 H1 e1 w1 => ?_⟩
          obtain ⟨p, vs, hv, hp, hl, w2⟩ := sat_list w1 h1
          rw [hv0] at hv
          cases hv
          have o2 : Own K S1 H1 [] ((v, o) :: (.ref p0, .ol os) :: (T ++ (its (ρ1.set i none) σ ++ F))) := w2.own.perm (.swap _ _ _)
          obtain ⟨vs', hp', hl', o3⟩ := o2.app
          rw [hp] at hp'
          cases hp'
          refine ⟨p0, vs, v, rfl, rfl, hp, by rw [hl]; exact big_lt hb, k _ S1 _ e1 ?_⟩
          have w3 : Sat K pin S1 (upd H1 p0 (.lst (vs ++ [v]))) ((.ref p0, .ol (os ++ [o])) :: T) (ρ1.set i none) σ F := w2.with o3
          have w4 := w3.back hv0
          rw [List.set_set] at w4
          exact w4.push (.non .nil)
        · cases e
      · cases e
    · cases e
  · cases e
theorem se_append {i : Nat} {x : Str} {p2 : Pos} (h : SE X pin e t f) (hN : X.N[i]? = some x := by rfl) (hv : Vis X.env.scope x := by first | exact Or.inl rfl | exact Or.inr (Or.inl rfl) | exact Or.inr (Or.inr rfl)) (hd : (x == ("__debug__" : Str)) = false := by decide) (hcd : (x == ("__classdict__" : Str)) = false := by decide)
    (hbase : attributeBase (.Name x p2) "append" X.env (eval (.Name x p2) X.env) = eval (.Name x p2) X.env := by rfl)
    (hfew : ((backTo pos (starEach [e] X.env)).all (fun x => !x.1) && (backToKw pos (keywordEach [] X.env)).all (fun x => x.1.isSome) && decide (([e] : List Expr).length + ([] : List Keyword).length + (if ([] : List Keyword).isEmpty then 0 else 1) < 30)) = true := by rfl)
    (hline : (apos.endLine == pos.line) = true := by rfl) (hs : starEach [e] X.env = (false, eval e X.env) :: starEach [] X.env := by rfl) : SE X pin (.Call (.Attribute (.Name x p2) "append" apos) [e] [] pos) (tBM X.K "list" rAppend (tVar i) (tCons t tNil)) (fAppend i f) :=
  ⟨pe_bm PySem.F.plainAttrs_list PySem.F.slot_list_append PySem.F.type_list_append mt_append (pe_var hN hv hd hcd) (pa_cons h.pe pa_nil hs) hbase hfew hline hs rfl, re_append h.rd⟩
def fExtend (i : Nat) (f : Fe) : Fe := fun ρ => match ρ[i]? with
  | some (some (.ol _)) => (match f ρ with
    | some (.ol os', ρ1) => (match ρ1[i]? with
      | some (some (.ol os)) => if os.length + os'.length ≤ big then some (.st .non, ρ1.set i (some (.ol (os ++ os')))) else none
      | _ => none)
    | _ => none)
  | _ => none
theorem re_extend {i : Nat} (h : RE K pin t f) : RE K pin (tBM K "list" rExtend (tVar i) (tCons t tNil)) (fExtend i f) := by
  intro S H T ρ σ F Q od ρ' w e k
  unfold fExtend at e
  split at e
  · rename_i os0 h0
    obtain ⟨p0, vs0, hv0, hp0, _, _⟩ := sat_list w h0
    split at e
    · rename_i os' ρ1 q1
      split at e
      · rename_i os h1
        split at e
        · rename_i hb
          cases e
          refine ⟨.ref p0, hv0, .inl ⟨rfl, vs0, SqL.of hp0⟩, h S H T ρ σ F _ _ ρ1 w q1 fun v S1 H1 e1 w1 => ?_⟩
          obtain ⟨p, vs, hv, hp, hl, w2⟩ := sat_list w1 h1
          rw [hv0] at hv
          cases hv
          have o2 : Own K S1 H1 [] ((.ref p0, .ol os) :: (v, .ol os') :: (T ++ (its (ρ1.set i none) σ ++ F))) := w2.own
          obtain ⟨fp, q⟩ := o2.at1
          have hvr : ∃ b, v = .ref b := by cases q with | ol a l _ _ => exact ⟨_, rfl⟩
          obtain ⟨b, rfl⟩ := hvr
          obtain ⟨us, hb1, hb2, _, o3⟩ := (o2.perm (.swap _ _ _)).open_
          have o4 : Own K S1 H1 [b] ((.ref p0, .ol os) :: (us.zip os' ++ (T ++ (its (ρ1.set i none) σ ++ F)))) := o3.perm List.perm_middle
          obtain ⟨vs', hp', hl', hne, o5⟩ := o4.open_
          rw [hp] at hp'
          cases hp'
          refine ⟨p0, b, vs, us, rfl, rfl, hp, hb1, big_le (by omega), k _ S1 _ e1 ?_⟩
          have o6 : Own K S1 H1 [p0] ((vs ++ us).zip (os ++ os') ++ (T ++ (its (ρ1.set i none) σ ++ F))) := by
            rw [zip_app hl', List.append_assoc]
            obtain ⟨x1, fp', x2, x3, x4, x5⟩ := o5
            exact ⟨x1, fp', x2, x3, x4, fun q hq => x5 q (by have : q = p0 := by simpa using hq
                                                             subst this; exact List.mem_cons_self)⟩
          have w3 : Sat K pin S1 (upd H1 p0 (.lst (vs ++ us))) ((.ref p0, .ol (os ++ os')) :: T) (ρ1.set i none) σ F := w2.with (o6.close (by simp; omega) (by simp))
          have w4 := w3.back hv0
          rw [List.set_set] at w4
          exact w4.push (.non .nil)
        · cases e
      · cases e
    · cases e
  · cases e
theorem se_extend {i : Nat} {x : Str} {p2 : Pos} (h : SE X pin e t f) (hN : X.N[i]? = some x := by rfl) (hv : Vis X.env.scope x := by first | exact Or.inl rfl | exact Or.inr (Or.inl rfl) | exact Or.inr (Or.inr rfl)) (hd : (x == ("__debug__" : Str)) = false := by decide) (hcd : (x == ("__classdict__" : Str)) = false := by decide)
    (hbase : attributeBase (.Name x p2) "extend" X.env (eval (.Name x p2) X.env) = eval (.Name x p2) X.env := by rfl)
    (hfew : ((backTo pos (starEach [e] X.env)).all (fun x => !x.1) && (backToKw pos (keywordEach [] X.env)).all (fun x => x.1.isSome) && decide (([e] : List Expr).length + ([] : List Keyword).length + (if ([] : List Keyword).isEmpty then 0 else 1) < 30)) = true := by rfl)
    (hline : (apos.endLine == pos.line) = true := by rfl) (hs : starEach [e] X.env = (false, eval e X.env) :: starEach [] X.env := by rfl) : SE X pin (.Call (.Attribute (.Name x p2) "extend" apos) [e] [] pos) (tBM X.K "list" rExtend (tVar i) (tCons t tNil)) (fExtend i f) :=
  ⟨pe_bm PySem.F.plainAttrs_list PySem.F.slot_list_extend PySem.F.type_list_extend mt_extend (pe_var hN hv hd hcd) (pa_cons h.pe pa_nil hs) hbase hfew hline hs rfl, re_extend h.rd⟩
/-! ### x[k] = .. -/
theorem Own.put {p : Addr} {os : List OD} {v : V} {o : OD} {L : List It} {j : Nat} (h : Own K S H [] ((v, o) :: (.ref p, .ol os) :: L)) (hj : j < os.length) : ∃ vs, H p = some (.lst vs) ∧ vs.length = os.length ∧ Own K S (upd H p (.lst (vs.set j v))) [] ((.ref p, .ol (os.set j o)) :: L) := by
  obtain ⟨vs, h1, h2, h3, h4⟩ := (h.perm (.swap _ _ _)).open_
  refine ⟨vs, h1, h2, Own.close (Own.sub h4 ?_) (by simp [h2]) h3⟩
  have hz : (vs.set j v).zip (os.set j o) = (vs.zip os).set j (v, o) := by
    apply List.ext_getElem?
    intro i
    by_cases hi : i = j
    · subst hi
      have q1 : (vs.set i v)[i]? = some v := List.getElem?_set_self (by omega)
      have q2 : (os.set i o)[i]? = some o := List.getElem?_set_self (by omega)
      rw [List.getElem?_set_self (by simp; omega)]
      rw [List.getElem?_zip_eq_some]
      exact ⟨q1, q2⟩
    · rw [List.getElem?_set_ne (Ne.symm hi)]
      simp only [List.zip, List.getElem?_zipWith, List.getElem?_set_ne (Ne.symm hi)]
  have hj' : j < (vs.zip os).length := by simp; omega
  refine ⟨[(vs.zip os)[j]], ?_⟩
  rw [hz]
  have key : ((v, o) :: vs.zip os).Perm ((vs.zip os)[j] :: (vs.zip os).set j (v, o)) := by
    have e1 : vs.zip os = (vs.zip os).take j ++ (vs.zip os)[j] :: (vs.zip os).drop (j + 1) := by rw [List.getElem_cons_drop, List.take_append_drop]
    have e2 : (vs.zip os).set j (v, o) = (vs.zip os).take j ++ (v, o) :: (vs.zip os).drop (j + 1) := by
      rw [List.set_eq_take_append_cons_drop, if_pos hj']
    rw [e2]
    refine .trans (.cons _ (.of_eq e1)) ?_
    refine .trans (.cons _ List.perm_middle) ?_
    refine .trans (.swap _ _ _) ?_
    exact .cons _ List.perm_middle.symm
  refine (List.perm_middle (l₁ := vs.zip os) (l₂ := L) (a := (v, o))).trans ?_
  exact key.append_right L
def gSetI (i : Nat) (f : Fe) : Fg := fun o ρ => match ρ[i]? with
  | some (some (.ol _)) => (match f ρ with
    | some (.st (.int k), ρ1) => (match ρ1[i]? with
      | some (some (.ol os)) => (match ixN os.length k with
        | some j => some (ρ1.set i (some (.ol (os.set j o))))
        | none => none)
      | _ => none)
    | _ => none)
  | _ => none
theorem rgt_set {i : Nat} (h : RE K pin t f) : RG K pin [] (L2.gSub (tVar i) t rSetL) (gSetI i f) := by
  intro S H T ρ σ F v o Q ρ' w e k
  unfold gSetI at e
  split at e
  · rename_i os0 h0
    obtain ⟨p0, vs0, hv0, hp0, _, _⟩ := sat_list w h0
    split at e
    · rename_i kk ρ1 q1
      split at e
      · rename_i os h1
        split at e
        · rename_i j hj
          cases e
          refine ⟨.ref p0, hv0, h S H _ ρ σ F _ _ ρ1 w q1 fun u S1 H1 e1 w1 => ?_⟩
          cases w1.known
          obtain ⟨p, vs, hv, hp, hl, w2⟩ := sat_list w1.tl h1
          rw [hv0] at hv
          cases hv
          have hjl : j < os.length := (ixN_seq hj).2.1
          have o2 : Own K S1 H1 [] ((v, o) :: (.ref p0, .ol os) :: (T ++ (its (ρ1.set i none) σ ++ F))) := w2.own.perm (.swap _ _ _)
          obtain ⟨vs', hp', hl', o3⟩ := o2.put hjl
          rw [hp] at hp'
          cases hp'
          refine ⟨p0, vs, kk, j, rfl, rfl, hp, by rw [hl]; exact hj, k S1 _ σ e1 (Only.refl σ) ?_⟩
          have w3 : Sat K pin S1 (upd H1 p0 (.lst (vs.set j v))) ((.ref p0, .ol (os.set j o)) :: T) (ρ1.set i none) σ F := w2.with o3
          have w4 := w3.back hv0
          rw [List.set_set] at w4
          exact w4
        · cases e
      · cases e
    · cases e
  · cases e
theorem sg_set {i : Nat} {x : Str} {p2 : Pos} (h : SE X pin e t f) (hN : X.N[i]? = some x := by rfl) (hv : Vis X.env.scope x := by first | exact Or.inl rfl | exact Or.inr (Or.inl rfl) | exact Or.inr (Or.inr rfl)) (hd : (x == ("__debug__" : Str)) = false := by decide) (hcd : (x == ("__classdict__" : Str)) = false := by decide)
    (ha : ∀ v, assign (.Subscript (.Name x p2) e pos) X.env v = (do
      let ov ← holding [v] (eval (.Name x p2) X.env)
      let iv ← holding [v, ov] (eval e X.env)
      standAt pos
      holding [v, ov, iv] (setItem ov iv v)
      release [v, ov, iv] []) := by intro _; rfl) : SG X pin [] (.Subscript (.Name x p2) e pos) (L2.gSub (tVar i) t rSetL) (gSetI i f) := ⟨pg_sub (pe_var hN hv hd hcd) h.pe set_list ha, rgt_set h.rd⟩
end
end Qy
set_option Elab.async false
set_option linter.all false
set_option maxRecDepth 100000
set_option maxHeartbeats 400000
namespace Qy
open PySem PySem.Spec PyProof.Rows L2
/-- what a def makes, as its body runs -/
def runM (B : List Bool) (N : List Str) (F : Fs) : Mir := fun ods => match F (rho0 N ods) with
  | some (.rt r ρ') => some (r, outsOf B ρ')
  | some (.nx ρ') => some (.st .non, outsOf B ρ')
  | _ => none
theorem mk_run {K : PySem.W.Frag} {P : Program} {w : World} {mg : Str → Option Value} {base : Heap} {x qual : Str} {dvs : List V} {kws : List (Str × V)} {st : Stmt} {f : Addr} {fd : FuncData} {N ps : List Str} {k : Nat} (F : FunD K x qual (defArgs st) (defBody st) (defScope st) dvs kws f fd) (Sc : FnScope N ps (defScope st)) (B : List Bool) (Fb : Fs)
    (hbody : ∀ cdv A outer s H E pin, A.guards = some [] → Room k (A.deeper (envOfC qual (defScope st) s.heap.objs.size f cdv)) → (∀ i, B[i]? ≠ some true → NoPin pin i) → ∃ t, SB (cxOf CX0 P w K mg base N qual (defScope st) f cdv A outer s H E).nox pin (defBody st) t Fb) :
    FnG P w K mg base CX0 (k + 1) f fd ps (spM K ps.length (runM B N Fb)) := by
  refine mk_fn F Sc B (fun _ => Fb) (fun ods r outs h _ => ?_) fun _ => hbody
  unfold runM at h
  split at h
  · rename_i r' ρ' q; cases h; exact ⟨0, ρ', .inl q, rfl⟩
  · rename_i ρ' q; cases h; exact ⟨0, ρ', .inr ⟨q, rfl⟩, rfl⟩
  · cases h
section
variable {X : Cx} {pin : List (Option V)} {pos : Pos} {K : PySem.W.Frag}
theorem u67 {k : Nat} {A : Around} (hr : Room k A) : A.units + 67 < cLine := by have := hr.un; omega
theorem u66 {k : Nat} {A : Around} (hr : Room k A) : A.units + 66 < cLine := by have := hr.un; omega
theorem u65 {k : Nat} {A : Around} (hr : Room k A) : A.units + 65 < cLine := by have := hr.un; omega
theorem u64 {k : Nat} {A : Around} (hr : Room k A) : A.units + 64 < cLine := by have := hr.un; omega
theorem u0 {k : Nat} {A : Around} (hr : Room k A) : A.units < cLine := by have := hr.un; omega
theorem se_ty {x : Str} {n : String} (hm : X.mg x = none) (hv : bootBuiltins x = some (.type n)) (hg : Gl X x := by rfl) (hn : x ≠ "__name__" := by decide) (hd : (x == ("__debug__" : Str)) = false := by decide) : SE X pin (.Name x pos) (tC (.ty n)) (fC (.raw (.ty n))) := se_bltn hg hm hv rfl hn hd
theorem se_gint {x : Str} {i : Int} (h : ∃ t, X.mg x = some (.int i t)) (hg : Gl X x := by rfl) (hd : (x == ("__debug__" : Str)) = false := by decide) : SE X pin (.Name x pos) (tC (.int i)) (fC (.int i)) := by
  obtain ⟨t, h⟩ := h
  exact se_glob hg h ⟨t, rfl⟩ (fun _ => .int .nil) hd
theorem se_gstr {x z : Str} (h : ∃ t, X.mg x = some (.str z t)) (hg : Gl X x := by rfl) (hd : (x == ("__debug__" : Str)) = false := by decide) : SE X pin (.Name x pos) (tC (.str z)) (fC (.str z)) := by
  obtain ⟨t, h⟩ := h
  exact se_glob hg h ⟨t, rfl⟩ (fun _ => .str .nil) hd
def rLtQ (K : PySem.W.Frag) : R2 := fun x y H Q => rI0 (fun i j => .bl (decide (i < j))) x y H Q ∨ ((∃ i j, x = .str i ∧ y = .str j ∧ Q (.bl (decide (i.cps.toList < j.cps.toList))) H) ∨ rLtT K x y H Q)
theorem op_ltQ (hu : X.A.units < cLine) : OpR X (compareOp .Lt) (rLtQ X.K) := OpR.or op_lt (OpR.or op_lt_str (op_ltT hu))
theorem rg_ltQ : RG2 K (rLtQ K) gLt := rg_lt.or (rg_ltS.or rg_ltT)
/-- enumerate(x) of a list -/
def enumD (ds : List D) : List D := ds.zipIdx.map fun p => .tup [.int (p.2 : Nat), p.1]
def fItE (f : Fa) : Fi := fun ρ => match f ρ with
  | some ([.st (.lst ds)], ρ') => some (enumD ds, ρ')
  | _ => none
theorem ri_enum {t : TA} {f : Fa} (h : RA K pin t f) : RI K pin (iEnum K t) (fItE f) := by
  intro S H T ρ σ F R ds ρ' w e k
  unfold fItE at e
  split at e
  · rename_i ds0 ρ1 q
    cases e
    refine h S H T ρ σ F _ _ _ w q fun vs S' H' x hl w' => ?_
    match vs, hl with
    | [v], hl1 =>
      cases (show Rp K S' v (.lst ds0) from w'.known) with
      | lst a b c q9 =>
        rename_i ad xs
        have hn : (enumD ds0).length = xs.length := by simp [enumD, b]
        refine ⟨ad, xs, rfl, SqL.of (w'.le _ _ a), k (Ite K ad) _ _ S' H' x w'.tl (by rw [hn]; exact walk_enum) (fun H2 e2 => SqL.of (e2 _ _ a)) fun i d H2 y H3 S2 L hd e2 o2 hy => ?_⟩
        obtain ⟨T2, x1, x2, rfl, hT, rfl, h1, h2⟩ := hy
        cases h1
        have hd' : ∃ d0, ds0[i]? = some d0 ∧ d = .tup [.int (i : Nat), d0] := by
          simp only [enumD, List.getElem?_map, List.getElem?_zipIdx] at hd
          cases q0 : ds0[i]? with
          | none => rw [q0] at hd; cases hd
          | some d0 => rw [q0] at hd; exact ⟨d0, rfl, by simpa using hd.symm⟩
        obtain ⟨d0, hd0, rfl⟩ := hd'
        have rp := (rp_at c h2 hd0).mono e2
        obtain ⟨e5, o5⟩ := Own.newT (vs := [.int (i : Nat), x2]) (ds := [.int (i : Nat), d0]) o2 (.int (RpI.cons rp .nil)) rfl hT
        exact ⟨_, e5, o5⟩
  · cases e
theorem si_enum {elts : List Expr} {kk : Nat} {tpos p : Pos} {e : Expr} {t : TA} {f : Fa} (hm : X.mg "enumerate" = none) (h : SA X pin [e] t f) (hg : Gl X "enumerate" := by rfl) (hs : starEach [e] X.env = [(false, eval e X.env)] := by rfl) (hK : X.K = K := by rfl) : SI X pin (.Tuple elts kk tpos) (.Call (.Name "enumerate" p) [e] [] pos) (iEnum K t) (fItE f) := by subst hK; exact ⟨pi_enum hg hm h.pe hs, ri_enum h.rd⟩
end
end Qy
set_option Elab.async false
set_option linter.all false
set_option maxRecDepth 100000
set_option maxHeartbeats 400000
/-! Dicts whose keys are ints or texts, their values stable. -/
namespace Qy
open PySem PySem.Spec PyProof.Rows L2
def keyD : D → Option Key
  | .int i => some (.inl i)
  | .str x => some (.inr x)
  | _ => none
def valA {α : Type} (kvs : List (Key × α)) (k : Key) : Option α := (kvs.find? fun kv => decide (kv.1 = k)).map (·.2)
def putA {α : Type} (kvs : List (Key × α)) (k : Key) (v : α) : List (Key × α) :=
  if (kvs.any fun kv => decide (kv.1 = k)) = true then kvs.map (fun kv => if kv.1 = k then (kv.1, v) else kv) else kvs ++ [(k, v)]
def mergeA {α : Type} (kvs more : List (Key × α)) : List (Key × α) := more.foldl (fun acc kv => putA acc kv.1 kv.2) kvs
/-- the pairs of a dict, as values and as trees -/
def RpK (K : PySem.W.Frag) (S : Hp) : List (Key × V) → List (Key × D) → Prop
  | [], [] => True
  | p :: ks, q :: ds => p.1 = q.1 ∧ Rp K S p.2 q.2 ∧ RpK K S ks ds
  | _, _ => False
section
variable {X : Cx} {pin : List (Option V)} {K : PySem.W.Frag} {S S' H : Hp} {e a b c : Expr} {t ta tb tc : TE} {f : Fe} {oa ob : Fo} {pos p apos : Pos} {L : List It}
theorem keyD_rp {v : V} {d : D} {k : Key} (h : Rp K S v d) (e : keyD d = some k) : v = kV k := by
  cases d with
  | int i => cases e; cases h; rfl
  | str i => cases e; cases h; rfl
  | _ => cases e
theorem rpk_iff : ∀ {ks : List (Key × V)} {ds : List (Key × D)}, RpK K S ks ds ↔ (ks.map (·.1) = ds.map (·.1) ∧ RpI K S ((ks.map (·.2)).zip (ds.map (·.2))))
  | [], [] => ⟨fun _ => ⟨rfl, .nil⟩, fun _ => trivial⟩
  | [], _ :: _ => ⟨fun h => h.elim, fun h => by simp at h⟩
  | _ :: _, [] => ⟨fun h => h.elim, fun h => by simp at h⟩
  | p :: ks, q :: ds => ⟨fun ⟨h1, h2, h3⟩ => by
      obtain ⟨e1, e2⟩ := rpk_iff.mp h3
      exact ⟨by simp [h1, e1], .cons h2 e2⟩, fun ⟨h1, h2⟩ => by
      simp only [List.map_cons, List.cons.injEq] at h1
      exact ⟨h1.1, h2.head, rpk_iff.mpr ⟨h1.2, h2.tail⟩⟩⟩
theorem RpK.mono (x : Ex S S') : ∀ {ks : List (Key × V)} {ds : List (Key × D)}, RpK K S ks ds → RpK K S' ks ds
  | [], [], _ => trivial
  | _ :: _, _ :: _, ⟨h1, h2, h3⟩ => ⟨h1, h2.mono x, RpK.mono x h3⟩
theorem RpK.len : ∀ {ks : List (Key × V)} {ds : List (Key × D)}, RpK K S ks ds → ks.length = ds.length
  | [], [], _ => rfl
  | _ :: _, _ :: _, ⟨_, _, h3⟩ => by simp [h3.len]
theorem RpK.val (k : Key) : ∀ {ks : List (Key × V)} {ds : List (Key × D)}, RpK K S ks ds → (valV ks k = none ∧ valA ds k = none) ∨ ∃ v d, valV ks k = some v ∧ valA ds k = some d ∧ Rp K S v d
  | [], [], _ => .inl ⟨rfl, rfl⟩
  | p :: ks, q :: ds, ⟨h1, h2, h3⟩ => by
    by_cases e : q.1 = k
    · exact .inr ⟨p.2, q.2, valV_pos (h1.trans e), by simp [valA, List.find?_cons, e], h2⟩
    · have e' : ¬ p.1 = k := fun z => e (h1 ▸ z)
      have q2 : valA (q :: ds) k = valA ds k := by simp [valA, List.find?_cons, e]
      rw [valV_neg e', q2]
      exact h3.val k
theorem RpK.any (k : Key) : ∀ {ks : List (Key × V)} {ds : List (Key × D)}, RpK K S ks ds → (ks.any fun kv => decide (kv.1 = k)) = (ds.any fun kv => decide (kv.1 = k))
  | [], [], _ => rfl
  | p :: ks, q :: ds, ⟨h1, _, h3⟩ => by rw [List.any_cons, List.any_cons, h3.any k, h1]
theorem RpK.app : ∀ {ks ks' : List (Key × V)} {ds ds' : List (Key × D)}, RpK K S ks ds → RpK K S ks' ds' → RpK K S (ks ++ ks') (ds ++ ds')
  | [], _, [], _, _, h => h
  | _ :: _, _, _ :: _, _, ⟨h1, h2, h3⟩, h => ⟨h1, h2, h3.app h⟩
theorem RpK.sets {v : V} {d : D} (k : Key) (hv : Rp K S v d) : ∀ {ks : List (Key × V)} {ds : List (Key × D)}, RpK K S ks ds → RpK K S (ks.map fun kv => if kv.1 = k then (kv.1, v) else kv) (ds.map fun kv => if kv.1 = k then (kv.1, d) else kv)
  | [], [], _ => trivial
  | p :: ks, q :: ds, ⟨h1, h2, h3⟩ => by
    refine ⟨?_, ?_, h3.sets k hv⟩
    · by_cases e : q.1 = k
      · simp [h1, e]
      · simp [h1, e]
    · by_cases e : q.1 = k
      · simp [h1, e, hv]
      · simp [h1, e, h2]
theorem RpK.put {v : V} {d : D} (k : Key) (hv : Rp K S v d) {ks : List (Key × V)} {ds : List (Key × D)} (h : RpK K S ks ds) : RpK K S (putK ks k v) (putA ds k d) := by
  unfold putK putA
  rw [h.any k]
  by_cases q : (ds.any fun kv => decide (kv.1 = k)) = true
  · rw [if_pos q, if_pos q]; exact h.sets k hv
  · rw [if_neg q, if_neg q]; exact h.app ⟨rfl, hv, trivial⟩
theorem RpK.merge : ∀ {ms : List (Key × V)} {md : List (Key × D)} {ks : List (Key × V)} {ds : List (Key × D)}, RpK K S ms md → RpK K S ks ds → RpK K S (mergeK ks ms) (mergeA ds md)
  | [], [], _, _, _, h => h
  | p :: ms, q :: md, ks, ds, ⟨h1, h2, h3⟩, h => by
    have h4 : RpK K S (putK ks p.1 p.2) (putA ds q.1 q.2) := by rw [h1]; exact h.put q.1 h2
    exact RpK.merge (ms := ms) (md := md) h3 h4
/-! ### dicts that are owned -/
abbrev stD (ds : List (Key × D)) : List (Key × OD) := ds.map fun p => (p.1, .st p.2)
theorem Own.dictK {x : V} {kvs : List (Key × OD)} (h : Own K S H [] ((x, .oK kvs) :: L)) : ∃ p, x = .ref p := by
  obtain ⟨_, fp, w, _⟩ := h
  cases w with
  | oK a _ _ _ => exact ⟨_, rfl⟩
theorem Own.setK {q : Addr} {ks' : List (Key × V)} {ds : List (Key × D)} {kvs : List (Key × OD)} (h : Own K S H [] ((.ref q, .oK kvs) :: L)) (r : RpK K S ks' ds) : Own K S (upd H q (.dK ks')) [] ((.ref q, .oK (stD ds)) :: L) := by
  obtain ⟨le, fp, w, nd, sn, _⟩ := h
  cases w with
  | @oK _ ks0 _ _ f1 f2 a l c tl =>
    have sq := sn q List.mem_cons_self
    have nd' := List.nodup_cons.mp nd
    obtain ⟨e1, e2⟩ := rpk_iff.mp r
    refine ⟨ex_upd le sq, q :: ([] ++ f2), .oK upd_same (by rw [e1]; simp) ?_ (OwI.mono (H' := upd H q (.dK ks')) tl (ex_refl S) fun x hx => upd_ne fun (z : x = q) => nd'.1 (by rw [← z]; exact List.mem_append_right _ hx)), ?_, ?_, fun _ z => nomatch z⟩
    · have := owi_st (H := upd H q (.dK ks')) e2
      rw [List.map_map] at this ⊢
      exact this
    · exact List.nodup_cons.mpr ⟨fun z => nd'.1 (List.mem_append_right _ z), (List.nodup_append.mp nd'.2).2.1⟩
    · intro x hx
      rcases List.mem_cons.mp hx with rfl | hx
      · exact sq
      · exact sn x (List.mem_cons_of_mem _ (List.mem_append_right _ hx))
theorem Own.newK {q : Addr} {ks : List (Key × V)} {ds : List (Key × D)} (h : Own K S H [] L) (r : RpK K S ks ds) (n : H q = none) : Own K S (upd H q (.dK ks)) [] ((.ref q, .oK (stD ds)) :: L) := by
  obtain ⟨le, fp, w, nd, sn, _⟩ := h
  have sq : S q = none := ex_none le n
  have nq : q ∉ fp := fun z => by
    obtain ⟨u, hu⟩ := w.there q z
    rw [n] at hu; cases hu
  obtain ⟨e1, e2⟩ := rpk_iff.mp r
  refine ⟨ex_upd le sq, q :: ([] ++ fp), .oK upd_same (by rw [e1]; simp) ?_ (w.mono (ex_refl S) fun x hx => upd_ne fun z => nq (z ▸ hx)), List.nodup_cons.mpr ⟨nq, nd⟩, ?_, fun _ z => nomatch z⟩
  · have := owi_st (H := upd H q (.dK ks)) e2
    rw [List.map_map] at this ⊢
    exact this
  · intro x hx
    rcases List.mem_cons.mp hx with rfl | hx
    · exact sq
    · exact sn x hx
theorem At.dKr {x : V} {o : OD} {ds : List (Key × D)} (h : At K S H x o) (e : Ex S H) (r : o.rd = some (.dK ds)) : ∃ a ks, x = .ref a ∧ H a = some (.dK ks) ∧ RpK K S ks ds := by
  obtain ⟨a, ks, h1, h2, h3, h4⟩ := h.dK e r
  exact ⟨a, ks, h1, h2, rpk_iff.mpr ⟨h3, h4⟩⟩
/-! ### d[k], in, not in -/
def gDGet : OD → OD → Option OD := fun x y => match x.rd, y with
  | some (.dK ds), .st d => (match keyD d with
    | some k => (valA ds k).map .st
    | none => none)
  | _, _ => none
def gDIn (neg : Bool) : OD → OD → Option OD := fun y x => match x.rd, y with
  | some (.dK ds), .st d => (match keyD d with
    | some k => some (.st (.bl (xor neg (valA ds k).isSome)))
    | none => none)
  | _, _ => none
theorem se_or2 {t1 t2 : TE} {g1 g2 : OD → OD → Option OD} {oa ob : Fo} (h1 : SE X pin e t1 (fBin g1 oa ob)) (h2 : SE X pin e t2 (fBin g2 oa ob)) : SE X pin e (fun σ H Q => t1 σ H Q ∨ t2 σ H Q) (fBin (gOr2 g1 g2) oa ob) := by
  refine ⟨⟨fun pins s σ H Q I h => ?_⟩, fun S H T ρ σ F Q od ρ' w q k => ?_⟩
  · rcases h with h | h
    · exact h1.pe.run pins s σ H Q I h
    · exact h2.pe.run pins s σ H Q I h
  · unfold fBin gOr2 at q
    cases qa : oa.1 ρ with
    | none => rw [qa] at q; cases q
    | some pa =>
      obtain ⟨x, ρ1⟩ := pa
      rw [qa] at q
      simp only at q
      cases qb : ob.1 ρ1 with
      | none => rw [qb] at q; cases q
      | some pb =>
        obtain ⟨y, ρ2⟩ := pb
        rw [qb] at q
        simp only at q
        cases q1 : g1 x y with
        | some z =>
          rw [q1] at q
          exact .inl (h1.rd S H T ρ σ F Q od ρ' w (by unfold fBin; rw [qa]; simp only; rw [qb]; simp only; rw [q1]; exact q) k)
        | none =>
          rw [q1] at q
          exact .inr (h2.rd S H T ρ σ F Q od ρ' w (by unfold fBin; rw [qa]; simp only; rw [qb]; exact q) k)
theorem re_dget {oa ob : Fo} (ha : RO K pin ta oa) (hb : RO K pin tb ob) : RE K pin (tDGet ta tb) (fBin gDGet oa ob) := by
  have hr : RG2 K (fun x y H Q => ∃ a v, x = .ref a ∧ DGet H a y (some v) ∧ Q v H) gDGet := by
    intro S H L x y ox oy oz Q w q k
    unfold gDGet at q
    split at q
    · rename_i ds d hx
      split at q
      · rename_i kk hk
        obtain ⟨d', hd, rfl⟩ := Option.map_eq_some_iff.mp q
        obtain ⟨ad, ks, rfl, hA, r⟩ := w.at1.dKr w.le hx
        have hy := keyD_rp w.at0.st hk
        subst hy
        rcases r.val kk with ⟨_, z⟩ | ⟨v, d2, h1, h2, h3⟩
        · rw [z] at hd; cases hd
        · rw [hd] at h2; cases h2
          exact ⟨ad, v, rfl, h1 ▸ DGet.k hA, k v S H (ex_refl S) (w.push h3)⟩
      · cases q
    · cases q
  exact re_bin (r := fun x y H Q => ∃ a v, x = .ref a ∧ DGet H a y (some v) ∧ Q v H) ha hb hr
/-- x[k] of a list, tuple, text or dict -/
theorem se_ixD (hu : X.A.units + 1 < cLine) (ha : SO X pin a ta oa) (hb : SO X pin b tb ob) (hs : PlainIx b := by exact fun _ _ => rfl) (hK : X.K = K := by rfl) : SE X pin (.Subscript a b pos) (fun σ H Q => tOp (rIx K) ta tb σ H Q ∨ tDGet ta tb σ H Q) (fBin (gOr2 gIx gDGet) oa ob) := by
  subst hK
  exact se_or2 (se_ix ha hb hs) ⟨pe_dget hu ha.pe hb.pe hs, re_dget ha.rd hb.rd⟩
def rDIn (neg : Bool) : R2 := fun y x H Q => ∃ a o, x = .ref a ∧ DGet H a y o ∧ Q (.bl (xor neg o.isSome)) H
theorem op_din (hu : X.A.units + 1 < cLine) : OpR X (compareOp .In) (rDIn false) := by
  intro pins s σ H y x v u Q I ry rx ⟨a, o, ex, g, q⟩
  subst ex
  cases rx
  refine d_in hu I g ry fun s3 I3 => ⟨.bl o.isSome, H, I3, rfl, ?_⟩
  simpa using q
theorem op_dnotin (hu : X.A.units + 1 < cLine) : OpR X (compareOp .NotIn) (rDIn true) := by
  intro pins s σ H y x v u Q I ry rx ⟨a, o, ex, g, q⟩
  subst ex
  cases rx
  refine d_notIn hu I g ry fun s3 I3 => ⟨.bl (!o.isSome), H, I3, rfl, ?_⟩
  simpa using q
theorem rg_din {neg : Bool} : RG2 K (rDIn neg) (gDIn neg) := by
  intro S H L x y ox oy oz Q w q k
  unfold gDIn at q
  split at q
  · rename_i ds d hx
    split at q
    · rename_i kk hk
      cases q
      obtain ⟨ad, ks, rfl, hA, r⟩ := w.at0.dKr w.le hx
      have hy := keyD_rp w.at1.st hk
      subst hy
      have hs : (valV ks kk).isSome = (valA ds kk).isSome := by
        rcases r.val kk with ⟨z1, z2⟩ | ⟨v, d2, h1, h2, _⟩
        · rw [z1, z2]; rfl
        · rw [h1, h2]; rfl
      exact ⟨ad, _, rfl, DGet.k hA, by rw [hs]; exact k _ S H (ex_refl S) (w.push (.bl .nil))⟩
    · cases q
  · cases q
/-! ### d.get(k, x) -/
def fGet2 (a : Fo) (fk fx : Fe) : Fe := fun ρ => match a.1 ρ with
  | some (od, ρ1) => (match fk ρ1 with
    | some (.st dk, ρ2) => (match fx ρ2 with
      | some (ox, ρ3) => (match od.rd, keyD dk with
        | some (.dK ds), some k => (match valA ds k with
          | some d => some (.st d, a.2 od ρ3)
          | none => some (ox, a.2 od ρ3))
        | _, _ => none)
      | none => none)
    | _ => none)
  | none => none
theorem re_get2 {fk fx : Fe} (ha : RO K pin ta oa) (hk : RE K pin tb fk) (hx : RE K pin tc fx) : RE K pin (tDGet2 ta tb tc) (fGet2 oa fk fx) := by
  intro S H T ρ σ F Q od ρ' w q k
  unfold fGet2 at q
  split at q
  · rename_i o1 ρ1 q1
    split at q
    · rename_i dk ρ2 q2
      split at q
      · rename_i ox ρ3 q3
        split at q
        · rename_i ds kk hd hkey
          refine ha S H T ρ σ F _ o1 ρ1 w q1 fun x S1 H1 e1 w1 rs => ?_
          obtain ⟨ad, ks, rfl, hA, r⟩ := w1.own.at0.dKr w1.le hd
          refine ⟨ad, rfl, .inl ⟨ks, .inl hA⟩, hk S1 H1 _ ρ1 σ F _ _ ρ2 w1 q2 fun y S2 H2 e2 w2 => ?_⟩
          have hy := keyD_rp w2.known hkey
          subst hy
          refine hx S2 H2 _ ρ2 σ F _ ox ρ3 w2 q3 fun z S3 H3 e3 w3 => ?_
          have o3 : Own K S3 H3 [] ((z, ox) :: (kV kk, .st dk) :: (.ref ad, o1) :: (T ++ (its ρ3 σ ++ F))) := w3.own
          obtain ⟨ad', ks', he, hA', r'⟩ := (o3.at_ (x := .ref ad) (o := o1) (by simp)).dKr w3.le hd
          cases he
          refine ⟨_, DGet.k hA', ?_⟩
          rcases r'.val kk with ⟨z1, z2⟩ | ⟨v, d2, h1, h2, h3⟩
          · rw [z2] at q
            cases q
            rw [z1]
            have w4 : Sat K pin S3 H3 ((.ref ad, o1) :: (z, od) :: T) ρ3 σ F := w3.with (by
              refine Own.sub o3 ⟨[(kV kk, .st dk)], ?_⟩
              exact (List.Perm.swap _ _ _).trans (.cons _ (.swap _ _ _)))
            exact k z S3 H3 (ex_trans e1 (ex_trans e2 e3)) (rs _ _ _ _ _ w4)
          · rw [h2] at q
            cases q
            rw [h1]
            have w4 : Sat K pin S3 H3 ((.ref ad, o1) :: (v, .st d2) :: T) ρ3 σ F := w3.with (by
              refine Own.sub (o3.push h3) ⟨[(z, ox), (kV kk, .st dk)], ?_⟩
              show ((v, OD.st d2) :: (z, ox) :: (kV kk, .st dk) :: (.ref ad, o1) :: (T ++ (its ρ3 σ ++ F))).Perm ((z, ox) :: (kV kk, .st dk) :: (.ref ad, o1) :: (v, OD.st d2) :: (T ++ (its ρ3 σ ++ F)))
              exact (List.Perm.swap _ _ _).trans (.cons _ ((List.Perm.swap _ _ _).trans (.cons _ (.swap _ _ _)))))
            exact k v S3 H3 (ex_trans e1 (ex_trans e2 e3)) (rs _ _ _ _ _ w4)
        · cases q
      · cases q
    · cases q
  · cases q
theorem se_get2 {fk fx : Fe} (hu : X.A.units + 1 < cLine) (ha : SO X pin a ta oa) (hk : SE X pin b tb fk) (hx : SE X pin c tc fx)
    (h1 : attributeBase a "get" X.env (eval a X.env) = eval a X.env := by rfl)
    (h2 : ((backTo pos (starEach [b, c] X.env)).all (fun x => !x.1) && (backToKw pos (keywordEach [] X.env)).all (fun x => x.1.isSome)
      && decide (([b, c] : List Expr).length + ([] : List Keyword).length + (if ([] : List Keyword).isEmpty then 0 else 1) < 30)) = true := by rfl)
    (h3 : (apos.endLine == pos.line) = true := by rfl) (h4 : backTo pos (starEach [b, c] X.env) = [(false, eval b X.env), (false, eval c X.env)] := by rfl) : SE X pin (.Call (.Attribute a "get" apos) [b, c] [] pos) (tDGet2 ta tb tc) (fGet2 oa fk fx) :=
  ⟨pe_dget2 hu ha.pe hk.pe hx.pe ⟨h1, h2, h3, h4⟩, re_get2 ha.rd hk.rd hx.rd⟩
/-! ### {}, {k: v} -/
def fDNew : Fe := fun ρ => some (.oK [], ρ)
theorem se_dnew : SE X pin (.Dict [] [] pos) tDNewK fDNew := ⟨pe_dnewK, by
  intro S H T ρ σ F Q od ρ' w q k
  cases q
  exact fun p hp => k _ S _ (ex_refl S) (w.with (Own.newK (ds := []) w.own trivial hp))⟩
def fD1 (fk fv : Fe) : Fe := fun ρ => match fk ρ with
  | some (.st dk, ρ1) => (match fv ρ1 with
    | some (.st dv, ρ2) => (match keyD dk with
      | some k => some (.oK [(k, .st dv)], ρ2)
      | none => none)
    | _ => none)
  | _ => none
theorem se_d1 {fk fv : Fe} (hk : SE X pin a ta fk) (hv : SE X pin b tb fv) : SE X pin (.Dict [some a] [b] pos) (tDisp [(ta, tb)]) (fD1 fk fv) := by
  refine ⟨pe_disp (pps_cons hk.pe hv.pe pps_nil) rfl rfl (by simp) (show 1 ≤ 15 by decide), ?_⟩
  intro S H T ρ σ F Q od ρ' w q k
  unfold fD1 at q
  split at q
  · rename_i dk ρ1 q1
    split at q
    · rename_i dv ρ2 q2
      split at q
      · rename_i kk hkey
        cases q
        intro p hp
        have w0 : Sat X.K pin S (upd H p (.dK [])) ((.ref p, .oK []) :: T) ρ σ F := w.with (Own.newK (ks := []) (ds := []) w.own trivial hp)
        refine hk.rd S _ _ ρ σ F _ _ ρ1 w0 q1 fun x S1 H1 e1 w1 => ?_
        have hx := keyD_rp w1.known hkey
        subst hx
        refine hv.rd S1 H1 _ ρ1 σ F _ _ ρ' w1 q2 fun y S2 H2 e2 w2 => ?_
        have w3 : Sat X.K pin S2 H2 ((.ref p, .oK []) :: T) ρ' σ F := w2.tl.tl
        have o3 : Own X.K S2 H2 [] ((.ref p, .oK []) :: (T ++ (its ρ' σ ++ F))) := w3.own
        have h0 : H2 p = some (.dK []) := by
          obtain ⟨fp, z⟩ := o3.at0
          cases z with
          | oK z1 z2 _ _ =>
            have : ∀ ks : List (Key × V), ks.map (·.1) = [] → ks = [] := fun ks h => by simpa using h
            rw [this _ z2] at z1
            exact z1
        refine ⟨h0, [(kk, y)], rfl, (show 1 ≤ 15 by decide), k _ S2 _ (ex_trans e1 e2) (w3.with ?_)⟩
        exact Own.setK (ks' := mergeK [] [(kk, y)]) (ds := [(kk, dv)]) o3 ⟨rfl, w2.known, trivial⟩
      · cases q
    · cases q
  · cases q
end
end Qy
set_option Elab.async false
set_option linter.all false
set_option maxRecDepth 100000
set_option maxHeartbeats 400000
namespace Qy
open PySem PySem.Spec PyProof.Rows L2
section
variable {X : Cx} {pin : List (Option V)} {K : PySem.W.Frag} {S S' H : Hp} {e a b c : Expr} {t ta tb tc tj : TE} {f fj : Fe} {oa ob : Fo} {pos p apos : Pos} {L T F : List It} {ρ ρ2 : Rho} {σ : L2.St}
/-! ### a list opened: its cell, its items -/
theorem Own.toCell {q : Addr} {os : List OD} (h : Own K S H [] ((.ref q, .ol os) :: L)) : ∃ vs, H q = some (.lst vs) ∧ vs.length = os.length ∧ Own K S H [] ((.ref q, .cell q (.lst vs)) :: (vs.zip os ++ L)) := by
  obtain ⟨le, fp, w, nd, sn, x⟩ := h
  cases w with
  | ol a l c tl => exact ⟨_, a, l, le, _, .cell a (c.append tl), nd, sn, x⟩
theorem Own.ofCell {q : Addr} {vs : List V} {os : List OD} (h : Own K S H [] ((.ref q, .cell q (.lst vs)) :: (vs.zip os ++ L))) (hl : vs.length = os.length) : Own K S H [] ((.ref q, .ol os) :: L) := by
  obtain ⟨le, fp, w, nd, sn, x⟩ := h
  cases w with
  | cell a tl =>
    obtain ⟨f, g, rfl, h1, h2⟩ := tl.split
    exact ⟨le, _, .ol a hl h1 h2, nd, sn, x⟩
theorem At.cell {x : V} {q : Addr} {o : HO} (h : At K S H x (.cell q o)) : x = .ref q ∧ H q = some o := by
  obtain ⟨fp, w⟩ := h
  cases w with
  | cell a _ => exact ⟨rfl, a⟩
def zRest (vs : List V) (os : List OD) (j : Nat) : List It := (vs.zip os).take j ++ (vs.zip os).drop (j + 1)
theorem zip_pick {vs : List V} {os : List OD} {j : Nat} {v : V} {o : OD} (hv : vs[j]? = some v) (ho : os[j]? = some o) : (vs.zip os).Perm ((v, o) :: zRest vs os j) := by
  have hz : (vs.zip os)[j]? = some (v, o) := by rw [List.getElem?_zip_eq_some]; exact ⟨hv, ho⟩
  obtain ⟨hj, hz'⟩ := List.getElem?_eq_some_iff.mp hz
  have e1 : vs.zip os = (vs.zip os).take j ++ (v, o) :: (vs.zip os).drop (j + 1) := by rw [← hz', List.getElem_cons_drop, List.take_append_drop]
  refine (List.Perm.of_eq e1).trans ?_
  exact List.perm_middle
theorem zip_set2 {vs : List V} {os : List OD} {j : Nat} {v : V} {o : OD} (hv : vs[j]? = some v) (hj : j < os.length) : (vs.zip (os.set j o)).Perm ((v, o) :: zRest vs os j) := by
  have h := zip_pick (os := os.set j o) (o := o) hv (List.getElem?_set_self hj)
  have e : zRest vs (os.set j o) j = zRest vs os j := by
    unfold zRest
    congr 1
    · simp only [List.zip, List.take_zipWith]
      rw [List.take_set_of_le (Nat.le_refl j)]
    · simp only [List.zip, List.drop_zipWith]
      rw [List.drop_set_of_lt (Nat.lt_succ_self j)]
  rw [e] at h
  exact h
theorem sat_open {i j : Nat} {os : List OD} {o : OD} (w : Sat K pin S H T ρ σ F) (ho : ρ[i]? = some (some (.ol os))) (hj : os[j]? = some o) : ∃ q vs v, σ[i]? = some (some (.ref q)) ∧ H q = some (.lst vs) ∧ vs.length = os.length ∧ vs[j]? = some v ∧ Sat K pin S H ((v, o) :: (.ref q, .cell q (.lst vs)) :: (zRest vs os j ++ T)) (ρ.set i none) σ F := by
  obtain ⟨q, vs0, hv, hq, hl0, w1⟩ := sat_list w ho
  obtain ⟨vs, hq', hl, o2⟩ := w1.own.toCell
  have hjl : j < vs.length := by rw [hl]; exact (List.getElem?_eq_some_iff.mp hj).1
  refine ⟨q, vs, vs[j], hv, hq', hl, List.getElem?_eq_getElem hjl, w1.with (o2.perm ?_)⟩
  refine .trans (.cons _ ((zip_pick (List.getElem?_eq_getElem hjl) hj).append_right _)) ?_
  simp only [List.cons_append, List.append_assoc]
  exact .swap _ _ _
theorem sat_shut {i j : Nat} {q : Addr} {vs : List V} {v : V} {os : List OD} {o : OD} (hv : σ[i]? = some (some (.ref q))) (hl : vs.length = os.length) (hvj : vs[j]? = some v) (w : Sat K pin S H ((v, o) :: (.ref q, .cell q (.lst vs)) :: (zRest vs os j ++ T)) ρ2 σ F) : Sat K pin S H T (ρ2.set i (some (.ol (os.set j o)))) σ F := by
  have hj : j < os.length := by rw [← hl]; exact (List.getElem?_eq_some_iff.mp hvj).1
  have w1 : Sat K pin S H ((.ref q, .ol (os.set j o)) :: T) ρ2 σ F := w.with (Own.ofCell (w.own.perm (by
    simp only [List.cons_append, List.append_assoc]
    refine .trans (.swap _ _ _) (.cons _ ?_)
    refine .trans ?_ ((zip_set2 (o := o) hvj hj).symm.append_right _)
    exact .of_eq (by simp))) (by simp [hl]))
  exact w1.back hv
/-! ### x[j].append(e) -/
def fAppAt (i : Nat) (fj f : Fe) : Fe := fun ρ => match ρ[i]? with
  | some (some (.ol os)) => (match fj (ρ.set i none) with
    | some (.st (.int k), ρ1) => (match ixN os.length k with
      | some j => (match os[j]? with
        | some (.ol us) => (match f ρ1 with
          | some (o, ρ2) => if us.length ≤ big then some (.st .non, ρ2.set i (some (.ol (os.set j (.ol (us ++ [o])))))) else none
          | none => none)
        | _ => none)
      | none => none)
    | _ => none)
  | _ => none
theorem ixN_at {α : Type} {xs : List α} {k : Int} {j : Nat} {x : α} (h : ixN xs.length k = some j) (hx : xs[j]? = some x) : atI xs k = some x := by
  unfold atI
  rw [h]
  exact hx
theorem re_appAt {i : Nat} (hj : RE K pin tj fj) (h : RE K pin t f) : RE K pin (tBM K "list" rAppend (tOp (rIx K) (tVar i) tj) (tCons t tNil)) (fAppAt i fj f) := by
  intro S H T ρ σ F Q od ρ' w e k
  unfold fAppAt at e
  split at e
  · rename_i os h0
    split at e
    · rename_i kk ρ1 q1
      split at e
      · rename_i j hix
        split at e
        · rename_i us hoj
          split at e
          · rename_i o ρ2 q2
            split at e
            · rename_i hb
              cases e
              obtain ⟨q, vs, v, hv, hq, hl, hvj, w1⟩ := sat_open w h0 hoj
              refine ⟨.ref q, hv, hj S H _ _ σ F _ _ ρ1 w1 q1 fun y S1 H1 e1 w2 => ?_⟩
              cases w2.known
              have w3 : Sat K pin S1 H1 ((v, .ol us) :: (.ref q, .cell q (.lst vs)) :: (zRest vs os j ++ T)) ρ1 σ F := w2.tl
              have hq1 : H1 q = some (.lst vs) := (Own.at_ (x := .ref q) (o := .cell q (.lst vs)) w3.own (by simp)).cell.2
              refine .inl ⟨q, vs, kk, v, rfl, rfl, SqL.of hq1, ixN_at (by rw [hl]; exact hix) hvj, ?_⟩
              obtain ⟨fp, z⟩ := (Own.at0 w3.own : At K S1 H1 v (.ol us))
              have hvr : ∃ b ws, v = .ref b ∧ H1 b = some (.lst ws) := by
                cases z with
                | ol a _ _ _ => exact ⟨_, _, rfl, a⟩
              obtain ⟨b, ws, rfl, hb1⟩ := hvr
              refine ⟨.inl ⟨rfl, ws, SqL.of hb1⟩, h S1 H1 _ ρ1 σ F _ o ρ2 w3 q2 fun y S2 H2 e2 w4 => ?_⟩
              have o5 : Own K S2 H2 [] ((y, o) :: (.ref b, .ol us) :: (.ref q, .cell q (.lst vs)) :: (zRest vs os j ++ T ++ (its ρ2 σ ++ F))) := w4.own
              obtain ⟨ws', hp', hl', o6⟩ := o5.app
              refine ⟨b, ws', y, rfl, rfl, hp', by rw [hl']; exact big_lt hb, k _ S2 _ (ex_trans e1 e2) ?_⟩
              have w6 : Sat K pin S2 (upd H2 b (.lst (ws' ++ [y]))) ((.ref b, .ol (us ++ [o])) :: (.ref q, .cell q (.lst vs)) :: (zRest vs os j ++ T)) ρ2 σ F := w4.with o6
              exact (sat_shut hv hl hvj w6).push (.non .nil)
            · cases e
          · cases e
        · cases e
      · cases e
    · cases e
  · cases e
theorem se_appAt {i : Nat} {x : Str} {j : Expr} {p2 ip : Pos} (hj : SE X pin j tj fj) (h : SE X pin e t f) (hsl : PlainIx j := by exact fun _ _ => rfl) (hN : X.N[i]? = some x := by rfl) (hv : Vis X.env.scope x := by first | exact Or.inl rfl | exact Or.inr (Or.inl rfl) | exact Or.inr (Or.inr rfl)) (hd : (x == ("__debug__" : Str)) = false := by decide) (hcd : (x == ("__classdict__" : Str)) = false := by decide)
    (hbase : attributeBase (.Subscript (.Name x p2) j ip) "append" X.env (eval (.Subscript (.Name x p2) j ip) X.env) = eval (.Subscript (.Name x p2) j ip) X.env := by rfl)
    (hfew : ((backTo pos (starEach [e] X.env)).all (fun x => !x.1) && (backToKw pos (keywordEach [] X.env)).all (fun x => x.1.isSome) && decide (([e] : List Expr).length + ([] : List Keyword).length + (if ([] : List Keyword).isEmpty then 0 else 1) < 30)) = true := by rfl)
    (hline : (apos.endLine == pos.line) = true := by rfl) (hs : starEach [e] X.env = (false, eval e X.env) :: starEach [] X.env := by rfl) : SE X pin (.Call (.Attribute (.Subscript (.Name x p2) j ip) "append" apos) [e] [] pos) (tBM X.K "list" rAppend (tOp (rIx X.K) (tVar i) tj) (tCons t tNil)) (fAppAt i fj f) :=
  ⟨pe_bm PySem.F.plainAttrs_list PySem.F.slot_list_append PySem.F.type_list_append mt_append (pe_ix ix_seq (pe_var hN hv hd hcd) hj.pe hsl) (pa_cons h.pe pa_nil hs) hbase hfew hline hs rfl, re_appAt hj.rd h.rd⟩
/-! ### what is walked, lent meanwhile -/
def RIL (K : PySem.W.Frag) (pin : List (Option V)) (wi : TI) (f : Fi) (bk : Rho → Rho → Rho) (sl : List Nat) : Prop := ∀ S H T ρ σ F R ds ρ', Sat K pin S H T ρ σ F → f ρ = some (ds, ρ') →
  (∀ J G Y Xs S' H', Ex S S' → Sat K pin S' H' (Xs ++ T) ρ' σ F → Walk J ds.length G Y → (∀ S2 H2 L, Ex S' S2 → Own K S2 H2 [] L → (∀ x ∈ Xs, x ∈ L) → G H2) →
    (∀ i d H2 x H3 S2 L, ds[i]? = some d → Ex S' S2 → Own K S2 H2 [] L → Y i H2 x H3 → ∃ S3, Ex S2 S3 ∧ Own K S3 H3 [] ((x, .st d) :: L)) →
    (∀ S2 H2 T2 ρ2, Sat K pin S2 H2 (Xs ++ T2) ρ2 σ F → Sat K pin S2 H2 T2 (bk ρ ρ2) σ F) → R J H') → wi σ H R
structure SIL (X : Cx) (pin : List (Option V)) (tg it : Expr) (wi : TI) (f : Fi) (bk : Rho → Rho → Rho) (sl : List Nat) : Prop where
  pe : PI X tg it wi
  rd : RIL X.K pin wi f bk sl
theorem ril_of {wi : TI} {fi : Fi} (h : RI K pin wi fi) : RIL K pin wi fi (fun _ ρ2 => ρ2) [] := by
  intro S H T ρ σ F R ds ρ' w e k
  refine h S H T ρ σ F R ds ρ' w e fun J G Y S' H' x w' W hG hY => ?_
  exact k J G Y [] S' H' x w' W (fun S2 H2 L e2 o2 _ => hG H2 (ex_trans e2 o2.le)) (fun i d H2 y H3 S2 L hd e2 o2 hy => hY i d H2 y H3 S2 L hd e2 o2 hy) fun _ _ _ _ w2 => w2
theorem sil_of {tg : Expr} {wi : TI} {fi : Fi} (h : SI X pin tg e wi fi) : SIL X pin tg e wi fi (fun _ ρ2 => ρ2) [] := ⟨h.pe, ril_of h.rd⟩
/-- for .. in x[j], x a list of lists that stands in a slot -/
def fItL (i : Nat) (fj : Fe) : Fi := fun ρ => match ρ[i]? with
  | some (some (.ol os)) => (match fj (ρ.set i none) with
    | some (.st (.int k), ρ1) => (match ixN os.length k with
      | some j => (match os[j]? with
        | some (.ol us) => (stAll us).map fun ds => (ds, ρ1)
        | _ => none)
      | none => none)
    | _ => none)
  | _ => none
theorem ril_at {i : Nat} (hj : RE K pin tj fj) : RIL K pin (iList K (tOp (rIx K) (tVar i) tj)) (fItL i fj) (fun ρ ρ2 => ρ2.set i (ρ[i]?.getD none)) [i] := by
  intro S H T ρ σ F R ds ρ' w e k
  unfold fItL at e
  split at e
  · rename_i os h0
    split at e
    · rename_i kk ρ1 q1
      split at e
      · rename_i j hix
        split at e
        · rename_i us hoj
          obtain ⟨ds', hst, hpe⟩ := Option.map_eq_some_iff.mp e
          cases hpe
          have hus := stAll_eq hst
          subst hus
          obtain ⟨q, vs, v, hv, hq, hl, hvj, w1⟩ := sat_open w h0 hoj
          refine ⟨.ref q, hv, hj S H _ _ σ F _ _ ρ' w1 q1 fun y S1 H1 e1 w2 => ?_⟩
          cases w2.known
          have w3 : Sat K pin S1 H1 ((v, .ol (ds.map .st)) :: (.ref q, .cell q (.lst vs)) :: (zRest vs os j ++ T)) ρ' σ F := w2.tl
          have hq1 : H1 q = some (.lst vs) := (Own.at_ (x := .ref q) (o := .cell q (.lst vs)) w3.own (by simp)).cell.2
          refine .inl ⟨q, vs, kk, v, rfl, rfl, SqL.of hq1, ixN_at (by rw [hl]; exact hix) hvj, ?_⟩
          obtain ⟨fp, z⟩ := (Own.at0 w3.own : At K S1 H1 v (.ol (ds.map .st)))
          have hvr : ∃ b, v = .ref b := by
            cases z with
            | ol a _ _ _ => exact ⟨_, rfl⟩
          obtain ⟨b, rfl⟩ := hvr
          obtain ⟨ws, hb1, hb2, o4⟩ := w3.own.toCell
          have hb3 : ws.length = ds.length := by simpa using hb2
          have rp : RpI K S1 (ws.zip ds) := by
            obtain ⟨_, fp, z, _⟩ := o4
            cases z with
            | cell a tl =>
              obtain ⟨f1, g1, _, h1, _⟩ := tl.split
              exact zip_st hb3 h1
          have w4 : Sat K pin S1 H1 (((.ref b, .cell b (.lst ws)) :: (ws.zip (ds.map .st) ++ ((.ref q, .cell q (.lst vs)) :: zRest vs os j))) ++ T) ρ' σ F := w3.with (o4.perm (.of_eq (by simp)))
          refine ⟨b, rfl, ⟨ws, SqL.of hb1⟩, k (Itl K b) _ (YAt ws) _ S1 H1 e1 w4 (hb3 ▸ walk_list (K := K)) (fun S2 H2 L e2 o2 hm => ?_) (fun i d H2 y H3 S2 L hd e2 o2 hy => ?_) fun S2 H2 T2 ρ2 w5 => ?_⟩
          · exact SqL.of (Own.at_ (x := .ref b) (o := .cell b (.lst ws)) o2 (hm _ (by simp))).cell.2
          · obtain ⟨rfl, hvv⟩ := hy
            exact ⟨S2, ex_refl S2, o2.push ((rp_at rp hvv hd).mono e2)⟩
          · have w6 : Sat K pin S2 H2 ((.ref b, .ol (ds.map .st)) :: (.ref q, .cell q (.lst vs)) :: (zRest vs os j ++ T2)) ρ2 σ F := w5.with (Own.ofCell (w5.own.perm (.of_eq (by simp))) hb2)
            have w7 := sat_shut hv hl hvj w6
            have eo : os.set j (.ol (ds.map .st)) = os := by
              obtain ⟨hjl, hje⟩ := List.getElem?_eq_some_iff.mp hoj
              rw [← hje, List.set_getElem_self]
            rw [eo] at w7
            show Sat K pin S2 H2 T2 (ρ2.set i (ρ[i]?.getD none)) σ F
            rw [h0]
            exact w7
        · cases e
      · cases e
    · cases e
  · cases e
theorem sil_at {i : Nat} {x : Str} {j tg : Expr} {p2 : Pos} (hj : SE X pin j tj fj) (hsl : PlainIx j := by exact fun _ _ => rfl) (hN : X.N[i]? = some x := by rfl) (hv : Vis X.env.scope x := by first | exact Or.inl rfl | exact Or.inr (Or.inl rfl) | exact Or.inr (Or.inr rfl)) (hd : (x == ("__debug__" : Str)) = false := by decide) (hcd : (x == ("__classdict__" : Str)) = false := by decide)
    (hK : X.K = K := by rfl) : SIL X pin tg (.Subscript (.Name x p2) j pos) (iList K (tOp (rIx K) (tVar i) tj)) (fItL i fj) (fun ρ ρ2 => ρ2.set i (ρ[i]?.getD none)) [i] := by
  subst hK
  exact ⟨pi_list (pe_ix ix_seq (pe_var hN hv hd hcd) hj.pe hsl), ril_at hj.rd⟩
end
end Qy
set_option Elab.async false
set_option linter.all false
set_option maxRecDepth 100000
set_option maxHeartbeats 400000
namespace Qy
open PySem PySem.Spec PyProof.Rows L2
section
variable {X : Cx} {pin : List (Option V)} {K : PySem.W.Frag} {S S' H : Hp} {e a b c : Expr} {t ta tb tc tj : TE} {f fj : Fe} {oa ob : Fo} {pos p apos : Pos} {L T F : List It} {ρ ρ2 : Rho} {σ : L2.St}
/-! ### {k: v for .. in ..} -/
def compD (own : List Nat) (tg : Fg) (tt : Ft) (fk fv : Fe) : List D → Rho → List (Key × D) → Option (List (Key × D) × Rho)
  | [], ρ, acc => some (acc, ρ)
  | d :: ds, ρ, acc => match tg (.st d) ρ with
    | none => none
    | some ρ1 => match tt ρ1 with
      | none => none
      | some (false, ρ2) => compD own tg tt fk fv ds (wipeR ρ2 own) acc
      | some (true, ρ2) => match fk ρ2 with
        | some (.st dk, ρ3) => (match fv ρ3 with
          | some (.st dv, ρ4) => (match keyD dk with
            | some k => if acc.length ≤ big then compD own tg tt fk fv ds (wipeR ρ4 own) (putA acc k dv) else none
            | none => none)
          | _ => none)
        | _ => none
def fDc (own : List Nat) (it : Fi) (bk : Rho → Rho → Rho) (tg : Fg) (tt : Ft) (fk fv : Fe) : Fe := fun ρ => match it ρ with
  | none => none
  | some (ds, ρ1) => match compD own tg tt fk fv ds (wipeR ρ1 own) [] with
    | none => none
    | some (acc, ρ2) => some (.oK (stD acc), bk ρ (wipeR ρ2 own))
theorem Own.putKD {q : Addr} {ds : List (Key × D)} {k : Key} {v : V} {d : D} (h : Own K S H [] ((.ref q, .oK (stD ds)) :: L)) (r : Rp K S v d) : ∃ ks, H q = some (.dK ks) ∧ ks.length = ds.length ∧ Own K S (upd H q (.dK (putK ks k v))) [] ((.ref q, .oK (stD (putA ds k d))) :: L) := by
  obtain ⟨ad, ks, he, hA, hr⟩ := h.at0.dKr h.le (show OD.rd (.oK (stD ds)) = some (.dK ds) by simp [OD.rd, stK_map])
  cases he
  exact ⟨ks, hA, hr.len, h.setK (hr.put k r)⟩
theorem re_dc {wi : TI} {fi : Fi} {bk : Rho → Rho → Rho} {g : TG} {fg : Fg} {sl sl' own : List Nat} {tt : TT} {ft : Ft} {tk tv : TE} {fk fv : Fe} (hi : RIL K pin wi fi bk sl') (hg : RG K pin sl g fg) (ht : RT K pin tt ft) (hk : RE K pin tk fk) (he : RE K pin tv fv) (hs : ∀ i ∈ sl, i ∈ own) (hp : ∀ i ∈ own, NoPin pin i) :
    RE K pin (tDc wi g tt tk tv own) (fDc own fi bk fg ft fk fv) := by
  intro S H T ρ σ F Q od ρ' w e k
  unfold fDc at e
  split at e
  · cases e
  · rename_i ds ρ1 q
    split at e
    · cases e
    · rename_i acc ρ2 q2
      cases e
      refine hi S H T ρ σ F _ ds ρ1 w q fun J G Y Xs S' H' x w' W hG hY hB D hD => ?_
      have pin0 := w'.pin
      refine ⟨fun i m H => m = ds.length - i ∧ i ≤ ds.length ∧ ∃ S2 ρ3 ac, Ex S' S2 ∧ Sat K pin S2 H ((.ref D, .oK (stD ac)) :: (Xs ++ T)) ρ3 (wipe σ own) F ∧ compD own fg ft fk fv (ds.drop i) ρ3 ac = some (acc, ρ2), ⟨ds.length, by simp, Nat.zero_le _, S', wipeR ρ1 own, [], ex_refl S', ?_, by simpa using q2⟩, ?_⟩
      · have w1 := w'.into (vs := own) hp
        exact w1.with (Own.newK (ks := []) (ds := []) w1.own trivial hD)
      · rintro i m H2 ⟨rfl, hi', S2, ρ3, ac, e2, w2, l2⟩
        have hGH : G H2 := hG S2 H2 _ e2 w2.own fun z hz => by
          simp only [List.cons_append, List.mem_cons, List.mem_append]
          exact .inr (.inl (.inl hz))
        by_cases hlt : i < ds.length
        · refine .inr ⟨W.goes i H2 hlt hGH, fun H3 => ∃ S3 ρ4 ac', Ex S' S3 ∧ Sat K pin S3 H3 ((.ref D, .oK (stD ac')) :: (Xs ++ T)) ρ4 (wipe σ own) F ∧ compD own fg ft fk fv (ds.drop (i + 1)) ρ4 ac' = some (acc, ρ2), fun H' z => ⟨ds.length - (i + 1), by omega, rfl, hlt, z⟩, fun y H3 hy' => ?_⟩
          have hy := W.yields i H2 y H3 hlt hGH hy'
          obtain ⟨d, hd⟩ : ∃ d, ds[i]? = some d := ⟨ds[i], by simp [hlt]⟩
          have hdr : ds.drop i = d :: ds.drop (i + 1) := by
            rw [List.drop_eq_getElem_cons hlt]
            congr 1
            have := List.getElem?_eq_getElem hlt
            rw [this] at hd
            exact Option.some.inj hd
          rw [hdr] at l2
          obtain ⟨S3, e3, o3⟩ := hY i d H2 y H3 S2 _ hd e2 w2.own hy
          have w3 : Sat K pin S3 H3 ((y, .st d) :: (.ref D, .oK (stD ac)) :: (Xs ++ T)) ρ3 (wipe σ own) F := w2.with o3
          unfold compD at l2
          split at l2
          · cases l2
          · rename_i ρ4 q4
            refine hg S3 H3 _ ρ3 (wipe σ own) F y (.st d) _ ρ4 w3 q4 fun S4 H4 σ4 e4 on w4 => ?_
            have hw := wipe_only on hs
            refine ⟨hw, ?_⟩
            have e04 : Ex S' S4 := ex_trans e2 (ex_trans e3 e4)
            split at l2
            · cases l2
            · rename_i ρ5 q5
              refine ht S4 H4 _ ρ4 σ4 F _ _ _ w4 q5 fun S5 H5 e5 w5 => ?_
              exact ⟨S5, wipeR ρ5 own, ac, ex_trans e04 e5, w5.outof hw hp, l2⟩
            · rename_i ρ5 q5
              refine ht S4 H4 _ ρ4 σ4 F _ _ _ w4 q5 fun S5 H5 e5 w5 => ?_
              show tk σ4 H5 _
              split at l2
              · rename_i dk ρ6 q6
                split at l2
                · rename_i dv ρ7 q7
                  split at l2
                  · rename_i kk hkey
                    split at l2
                    · rename_i hb
                      refine hk S5 H5 _ ρ5 σ4 F _ _ _ w5 q6 fun u S6 H6 e6 w6 => ?_
                      refine he S6 H6 _ ρ6 σ4 F _ _ _ w6 q7 fun v S7 H7 e7 w7 => ?_
                      have hu : u = kV kk := keyD_rp (w7.tl).known hkey
                      subst hu
                      have w8 : Sat K pin S7 H7 ((.ref D, .oK (stD ac)) :: (Xs ++ T)) ρ7 σ4 F := w7.tl.tl
                      obtain ⟨ks, h1, h2, h3⟩ := Own.putKD (k := kk) w8.own w7.known
                      refine ⟨ks, kk, rfl, h1, by rw [h2]; exact big_lt hb, S7, wipeR ρ7 own, putA ac kk dv, ex_trans e04 (ex_trans e5 (ex_trans e6 e7)), ?_, l2⟩
                      exact (w8.with h3).outof hw hp
                    · cases l2
                  · cases l2
                · cases l2
              · cases l2
        · have hie : i = ds.length := by omega
          subst hie
          rw [List.drop_length] at l2
          cases l2
          refine .inl ⟨W.stops H2 hGH, ?_⟩
          have w3 : Sat K pin S2 H2 ((.ref D, .oK (stD acc)) :: (Xs ++ T)) (wipeR ρ2 own) (wipe σ own) F := by
            have := w2.into (vs := own) hp
            have hh : wipe (wipe σ own) own = wipe σ own := wipe_only (sl := []) (Only.refl _) (fun _ z => nomatch z)
            rw [hh] at this
            exact this
          have w4 := w3.leave pin0
          have w5 : Sat K pin S2 H2 (Xs ++ ((.ref D, .oK (stD acc)) :: T)) (wipeR ρ2 own) σ F := w4.with (w4.own.perm (by
            rw [List.append_assoc]
            simp only [List.cons_append, List.append_assoc]
            exact List.perm_middle.symm))
          exact k _ S2 H2 (ex_trans x e2) (hB S2 H2 _ _ w5)
theorem se_dc {kx vx tg iter : Expr} {ifs : List Expr} {scope : Scope} {own : List (Str × Nat)} {wi : TI} {fi : Fi} {bk : Rho → Rho → Rho} {g : TG} {fg : Fg} {sl sl' : List Nat} {tt : TT} {ft : Ft} {tk tv : TE} {fk fv : Fe} (hc : X.calm = true) (hN : X.N.Nodup) (hi : SIL X pin tg iter wi fi bk sl') (ok : BlkOk X.N X.env.scope scope own)
    (hp : ∀ i ∈ own.map (·.2), NoPin pin i) (hsl : ∀ i ∈ sl, i ∈ own.map (·.2))
    (hg : ∀ (s : Shared) (H : Hp) (C : Addr) (cl : List (Str × Addr)) (fp : List Addr), SG (X.blk s H scope (compEnvC scope cl C X.env) fp) pin sl tg g fg) (ht : ∀ (s : Shared) (H : Hp) (C : Addr) (cl : List (Str × Addr)) (fp : List Addr), STL (X.blk s H scope (compEnvC scope cl C X.env) fp) pin ifs tt ft)
    (hk : ∀ (s : Shared) (H : Hp) (C : Addr) (cl : List (Str × Addr)) (fp : List Addr), SE (X.blk s H scope (compEnvC scope cl C X.env) fp) pin kx tk fk) (he : ∀ (s : Shared) (H : Hp) (C : Addr) (cl : List (Str × Addr)) (fp : List Addr), SE (X.blk s H scope (compEnvC scope cl C X.env) fp) pin vx tv fv) (hs : ∀ x, foldedSetIterable iter X.env x = pure x := by intro _; rfl) :
    SE X pin (.DictComp kx vx [⟨tg, iter, ifs, 0⟩] scope pos) (tDc wi g tt tk tv (own.map (·.2))) (fDc (own.map (·.2)) fi bk fg ft fk fv) :=
  ⟨pe_dc hc hN hi.pe ok (fun s H C cl fp => (hg s H C cl fp).pe) (fun s H C cl fp => (ht s H C cl fp).pe) (fun s H C cl fp => (hk s H C cl fp).pe) (fun s H C cl fp => (he s H C cl fp).pe) hs,
   re_dc hi.rd (hg X.s_0 X.H_0 0 [] []).rd (ht X.s_0 X.H_0 0 [] []).rd (hk X.s_0 X.H_0 0 [] []).rd (he X.s_0 X.H_0 0 [] []).rd hsl hp⟩
/-! ### a dict in a slot is changed -/
theorem sat_dict {i : Nat} {kvs : List (Key × OD)} (w : Sat K pin S H T ρ σ F) (ho : ρ[i]? = some (some (.oK kvs))) : ∃ q, σ[i]? = some (some (.ref q)) ∧ (∃ ks, H q = some (.dK ks)) ∧ Sat K pin S H ((.ref q, .oK kvs) :: T) (ρ.set i none) σ F := by
  obtain ⟨v, hv, w1⟩ := w.take ho
  have o1 : Own K S H [] ((v, .oK kvs) :: (T ++ (its (ρ.set i none) σ ++ F))) := w1.own
  obtain ⟨fp, q⟩ := o1.at0
  cases q with
  | oK a l _ _ => exact ⟨_, hv, ⟨_, a⟩, w1⟩
def rUpd : V → List V → Hp → VK → Prop := fun x vs H Q => ∃ d o ks ms, x = .ref d ∧ vs = [.ref o] ∧ d ≠ o ∧ H d = some (.dK ks) ∧ H o = some (.dK ms) ∧ ks.length + ms.length ≤ sizeLine ∧ Q .non (upd H d (.dK (mergeK ks ms)))
theorem mt_update : MtR X "dict.update" rUpd := by
  intro pins s σ H x xs v us Q I rx rxs h
  obtain ⟨d, o, ks, ms, rfl, rfl, hne, hd, ho, hz, q⟩ := h
  cases rx
  obtain ⟨u, rfl, ru⟩ := rxs.one
  cases ru
  obtain ⟨z, hd1, vs, rel, dd⟩ := dk_of I.hok hd
  obtain ⟨z2, hd2, vs2, rel2, dd2⟩ := dk_of I.hok ho
  refine call_meetsIn PySem.F.slot_dict_update dd.typeIs PySem.F.entry_dict_update (PySem.F.args_dict_update_2 _ _) (meets_dict_update (mixKind X.prog X.w) d o hne hd2) ⟨vs, vs2, dd, dd2, by rw [← rel.length, ← rel2.length]; exact hz, fun h' dd' _ hs => ?_⟩
  have he : ∃ q, h'.get? d = some q := let ⟨q, _, _, hq, _⟩ := dd'; ⟨q, hq⟩
  refine ⟨.non, _, d_write (t' := s.toks) I (by rw [hd]; exact True.intro) hs he (dk_new ?_ hd1 (rel2.merge rel) dd'), rfl, q⟩
  have := length_mergeK ms ks
  omega
def fUpdate (i : Nat) (f : Fe) : Fe := fun ρ => match ρ[i]? with
  | some (some (.oK _)) => (match f ρ with
    | some (.oK ms, ρ1) => (match ρ1[i]? with
      | some (some (.oK ks)) => (match stK ks, stK ms with
        | some ds, some md => if ds.length + md.length ≤ big then some (.st .non, ρ1.set i (some (.oK (stD (mergeA ds md))))) else none
        | _, _ => none)
      | _ => none)
    | _ => none)
  | _ => none
theorem re_update {i : Nat} (h : RE K pin t f) : RE K pin (tBM K "dict" rUpd (tVar i) (tCons t tNil)) (fUpdate i f) := by
  intro S H T ρ σ F Q od ρ' w e k
  unfold fUpdate at e
  split at e
  · rename_i os0 h0
    obtain ⟨p0, hv0, ⟨ks0, hp0⟩, _⟩ := sat_dict w h0
    split at e
    · rename_i ms ρ1 q1
      split at e
      · rename_i ks h1
        split at e
        · rename_i ds md hds hmd
          split at e
          · rename_i hb
            cases e
            refine ⟨.ref p0, hv0, .inr (.inr (.inl ⟨rfl, .inl ⟨ks0, hp0⟩⟩)), h S H T ρ σ F _ _ ρ1 w q1 fun v S1 H1 e1 w1 => ?_⟩
            obtain ⟨p, hv, _, w2⟩ := sat_dict w1 h1
            rw [hv0] at hv
            cases hv
            have o2 : Own K S1 H1 [] ((.ref p0, .oK ks) :: (v, .oK ms) :: (T ++ (its (ρ1.set i none) σ ++ F))) := w2.own
            obtain ⟨q', hq'⟩ := Own.dictK (o2.perm (.swap _ _ _))
            subst hq'
            obtain ⟨_, k1, hk1, hA1, r1⟩ := o2.at0.dKr o2.le (show OD.rd (.oK ks) = some (.dK ds) by simp [OD.rd, hds])
            cases hk1
            obtain ⟨_, k2, hk2, hA2, r2⟩ := o2.at1.dKr o2.le (show OD.rd (.oK ms) = some (.dK md) by simp [OD.rd, hmd])
            cases hk2
            have hne : p0 ≠ q' := by
              obtain ⟨_, fp, z, nd, _⟩ := o2
              cases z with
              | oK _ _ _ tl =>
                cases tl with
                | oK _ _ _ _ =>
                  rintro rfl
                  exact (List.nodup_cons.mp nd).1 (List.mem_append_right _ List.mem_cons_self)
            refine ⟨p0, q', k1, k2, rfl, rfl, hne, hA1, hA2, big_le (by rw [r1.len, r2.len]; exact hb), k _ S1 _ e1 ?_⟩
            have o3 := o2.setK (RpK.merge r2 r1)
            have w3 : Sat K pin S1 (upd H1 p0 (.dK (mergeK k1 k2))) ((.ref p0, .oK (stD (mergeA ds md))) :: T) (ρ1.set i none) σ F := w2.with ((o3.perm (.swap _ _ _)).tl)
            have w4 := w3.back hv0
            rw [List.set_set] at w4
            exact w4.push (.non .nil)
          · cases e
        · cases e
      · cases e
    · cases e
  · cases e
theorem se_update {i : Nat} {x : Str} {p2 : Pos} (h : SE X pin e t f) (hN : X.N[i]? = some x := by rfl) (hv : Vis X.env.scope x := by first | exact Or.inl rfl | exact Or.inr (Or.inl rfl) | exact Or.inr (Or.inr rfl)) (hd : (x == ("__debug__" : Str)) = false := by decide) (hcd : (x == ("__classdict__" : Str)) = false := by decide)
    (hbase : attributeBase (.Name x p2) "update" X.env (eval (.Name x p2) X.env) = eval (.Name x p2) X.env := by rfl)
    (hfew : ((backTo pos (starEach [e] X.env)).all (fun x => !x.1) && (backToKw pos (keywordEach [] X.env)).all (fun x => x.1.isSome) && decide (([e] : List Expr).length + ([] : List Keyword).length + (if ([] : List Keyword).isEmpty then 0 else 1) < 30)) = true := by rfl)
    (hline : (apos.endLine == pos.line) = true := by rfl) (hs : starEach [e] X.env = (false, eval e X.env) :: starEach [] X.env := by rfl) : SE X pin (.Call (.Attribute (.Name x p2) "update" apos) [e] [] pos) (tBM X.K "dict" rUpd (tVar i) (tCons t tNil)) (fUpdate i f) :=
  ⟨pe_bm PySem.F.plainAttrs_dict PySem.F.slot_dict_update PySem.F.type_dict_update mt_update (pe_var hN hv hd hcd) (pa_cons h.pe pa_nil hs) hbase hfew hline hs rfl, re_update h.rd⟩
/-! ### x[k] = v, x a list or a dict -/
def rSetD : TSet := fun o i v H Q => ∃ a H', o = .ref a ∧ DPut H a i v H' ∧ Q H'
theorem set_dictQ (hu : X.A.units + 1 < cLine) : PSet X rSetD := by
  intro pins s σ H o i v ov iv u Q I ro ri rv h
  obtain ⟨a, H', rfl, hp, q⟩ := h
  cases ro
  exact d_setItem hu I hp ri rv fun s' I' => ⟨H', I', q⟩
def rSetQ : TSet := fun o i v H Q => rSetL o i v H Q ∨ rSetD o i v H Q
theorem set_q (hu : X.A.units + 1 < cLine) : PSet X rSetQ := by
  intro pins s σ H o i v ov iv u Q I ro ri rv h
  rcases h with h | h
  · exact set_list pins s σ H o i v ov iv u Q I ro ri rv h
  · exact set_dictQ hu pins s σ H o i v ov iv u Q I ro ri rv h
def gSetD (i : Nat) (f : Fe) : Fg := fun o ρ => match ρ[i]? with
  | some (some (.oK _)) => (match o, f ρ with
    | .st d, some (.st dk, ρ1) => (match ρ1[i]? with
      | some (some (.oK ks)) => (match stK ks, keyD dk with
        | some ds, some k => if ds.length ≤ big then some (ρ1.set i (some (.oK (stD (putA ds k d))))) else none
        | _, _ => none)
      | _ => none)
    | _, _ => none)
  | _ => none
def gSetQ (i : Nat) (f : Fe) : Fg := fun o ρ => match gSetI i f o ρ with
  | some r => some r
  | none => gSetD i f o ρ
theorem rgt_setQ {i : Nat} (h : RE K pin t f) : RG K pin [] (L2.gSub (tVar i) t rSetQ) (gSetQ i f) := by
  intro S H T ρ σ F v o Q ρ' w e k
  unfold gSetQ at e
  split at e
  · rename_i r hr
    cases e
    unfold gSetI at hr
    split at hr
    · rename_i os0 h0
      obtain ⟨p0, vs0, hv0, hp0, _, _⟩ := sat_list w h0
      split at hr
      · rename_i kk ρ1 q1
        split at hr
        · rename_i os h1
          split at hr
          · rename_i j hj
            cases hr
            refine ⟨.ref p0, hv0, h S H _ ρ σ F _ _ ρ1 w q1 fun u S1 H1 e1 w1 => .inl ?_⟩
            cases w1.known
            obtain ⟨p, vs, hv, hp, hl, w2⟩ := sat_list w1.tl h1
            rw [hv0] at hv
            cases hv
            have hjl : j < os.length := (ixN_seq hj).2.1
            have o2 : Own K S1 H1 [] ((v, o) :: (.ref p0, .ol os) :: (T ++ (its (ρ1.set i none) σ ++ F))) := w2.own.perm (.swap _ _ _)
            obtain ⟨vs', hp', hl', o3⟩ := o2.put hjl
            rw [hp] at hp'
            cases hp'
            refine ⟨p0, vs, kk, j, rfl, rfl, hp, by rw [hl]; exact hj, k S1 _ σ e1 (Only.refl σ) ?_⟩
            have w3 : Sat K pin S1 (upd H1 p0 (.lst (vs.set j v))) ((.ref p0, .ol (os.set j o)) :: T) (ρ1.set i none) σ F := w2.with o3
            have w4 := w3.back hv0
            rw [List.set_set] at w4
            exact w4
          · cases hr
        · cases hr
      · cases hr
    · cases hr
  · rename_i hnone
    clear hnone
    unfold gSetD at e
    split at e
    · rename_i os0 h0
      obtain ⟨p0, hv0, _⟩ : ∃ p0, σ[i]? = some (some (.ref p0)) ∧ True := by
        obtain ⟨p0, hv0, _, _⟩ := sat_dict w h0
        exact ⟨p0, hv0, trivial⟩
      split at e
      · rename_i d dk ρ1 q1
        split at e
        · rename_i ks h1
          split at e
          · rename_i ds kk hds hkey
            split at e
            · rename_i hb
              cases e
              refine ⟨.ref p0, hv0, h S H _ ρ σ F _ _ ρ1 w q1 fun u S1 H1 e1 w1 => .inr ?_⟩
              have hu := keyD_rp w1.known hkey
              subst hu
              have hks := stK_eq hds
              subst hks
              obtain ⟨p, hv, _, w2⟩ := sat_dict w1.tl h1
              rw [hv0] at hv
              cases hv
              have o2 : Own K S1 H1 [] ((v, .st d) :: (.ref p0, .oK (stD ds)) :: (T ++ (its (ρ1.set i none) σ ++ F))) := w2.own.perm (.swap _ _ _)
              obtain ⟨ks, a1, a2, a3⟩ := Own.putKD (k := kk) o2.tl o2.known
              refine ⟨p0, _, rfl, DPut.k a1 (by rw [a2]; exact big_lt hb), k S1 _ σ e1 (Only.refl σ) ?_⟩
              have w3 : Sat K pin S1 (upd H1 p0 (.dK (putK ks kk v))) ((.ref p0, .oK (stD (putA ds kk d))) :: T) (ρ1.set i none) σ F := w2.with a3
              have w4 := w3.back hv0
              rw [List.set_set] at w4
              exact w4
            · cases e
          · cases e
        · cases e
      · cases e
    · cases e
theorem sg_setQ {i : Nat} {x : Str} {p2 : Pos} (hu : X.A.units + 1 < cLine) (h : SE X pin e t f) (hN : X.N[i]? = some x := by rfl) (hv : Vis X.env.scope x := by first | exact Or.inl rfl | exact Or.inr (Or.inl rfl) | exact Or.inr (Or.inr rfl)) (hd : (x == ("__debug__" : Str)) = false := by decide) (hcd : (x == ("__classdict__" : Str)) = false := by decide)
    (ha : ∀ v, assign (.Subscript (.Name x p2) e pos) X.env v = (do
      let ov ← holding [v] (eval (.Name x p2) X.env)
      let iv ← holding [v, ov] (eval e X.env)
      standAt pos
      holding [v, ov, iv] (setItem ov iv v)
      release [v, ov, iv] []) := by intro _; rfl) : SG X pin [] (.Subscript (.Name x p2) e pos) (L2.gSub (tVar i) t rSetQ) (gSetQ i f) := ⟨pg_sub (pe_var hN hv hd hcd) h.pe (set_q hu) ha, rgt_setQ h.rd⟩
end
end Qy
set_option Elab.async false
set_option linter.all false
set_option maxRecDepth 100000
set_option maxHeartbeats 400000
namespace Qy
open PySem PySem.Spec PyProof.Rows L2
/-- ints, ascending -/
def sortI (ks : List Int) : List Int := ks.mergeSort fun a b => decide (a ≤ b)
theorem sortI_eq {ys ks : List Int} (h1 : ys.Perm ks) (h2 : ys.Pairwise (· ≤ ·)) : ys = sortI ks := by
  have h3 : (sortI ks).Pairwise (· ≤ ·) := by
    have := List.pairwise_mergeSort (le := fun (a b : Int) => decide (a ≤ b)) (by intro a b c; simp; omega) (by intro a b; simp; omega) ks
    exact this.imp (by intro a b h; simpa using h)
  exact (h1.trans (List.mergeSort_perm ks _).symm).eq_of_pairwise (fun a b _ _ h h' => Int.le_antisymm h h') h2 h3
def intsK : List (Key × D) → Option (List Int)
  | [] => some []
  | (.inl i, _) :: r => (intsK r).map (i :: ·)
  | _ :: _ => none
theorem intsK_eq : ∀ {ds : List (Key × D)} {is : List Int}, intsK ds = some is → ds.map (·.1) = is.map Sum.inl
  | [], _, h => by cases h; rfl
  | (.inl i, d) :: r, is, h => by
    simp only [intsK, Option.map_eq_some_iff] at h
    obtain ⟨js, h1, rfl⟩ := h
    simp [intsK_eq h1]
  | (.inr _, _) :: _, _, h => by cases h
def gSortedD : OD → Option OD := fun a => match a.rd with
  | some (.dK ds) => (match intsK ds with
    | some is => if is.length < 64 then some (.ol ((sortI is).map fun i => .st (.int i))) else none
    | none => none)
  | _ => none
/-- pairs of a list -/
def pairsD : List D → Option (List (Key × D))
  | [] => some []
  | .tup [k, v] :: r => (match keyD k, pairsD r with
    | some k', some r' => some ((k', v) :: r')
    | _, _ => none)
  | _ :: _ => none
def gDict : OD → Option OD := fun a => match a.rd with
  | some (.lst ds) => (match pairsD ds with
    | some kvs => some (.oK (stD (mergeA [] kvs)))
    | none => none)
  | _ => none
section
variable {X : Cx} {pin : List (Option V)} {K : PySem.W.Frag} {S S' H : Hp} {e a b c : Expr} {t ta tb tc tj : TE} {f fj : Fe} {oa ob : Fo} {pos p apos : Pos} {L T F : List It} {ρ ρ2 : Rho} {σ : L2.St}
def rSortD : List V → Hp → VK → Prop := fun xs H Q => ∃ (a : Addr) (kvs : List (Key × V)) (ks : List Int), xs = [.ref a] ∧ Rd H a (.dK kvs) ∧ kvs.map (·.1) = ks.map Sum.inl ∧ ks.length < 64 ∧
    ∀ (ys : List Int) (p : Addr), ys.Perm ks → ys.Pairwise (· ≤ ·) → H p = none → Q (.ref p) (upd H p (.lst (ys.map V.int)))
theorem rpi_ints : ∀ (ys : List Int), RpI K S ((ys.map V.int).zip (ys.map D.int))
  | [] => .nil
  | i :: r => .int (rpi_ints r)
theorem rg_sortD : RG1 K (fun x H Q => rSortD [x] H Q) gSortedD := by
  intro S H L x ox oz Q w e k
  unfold gSortedD at e
  split at e
  · rename_i ds hd
    split at e
    · rename_i is his
      split at e
      · rename_i hl
        cases e
        obtain ⟨ad, ks, rfl, hA, r⟩ := w.at0.dKr w.le hd
        refine ⟨ad, ks, is, rfl, .inl hA, (rpk_iff.mp r).1.trans (intsK_eq his), hl, fun ys p h1 h2 hp => ?_⟩
        rw [sortI_eq h1 h2]
        refine k _ S _ (ex_refl S) ?_
        have := Own.newS (ds := (sortI is).map D.int) w (rpi_ints (sortI is)) (by simp) hp
        rw [List.map_map] at this
        exact this
      · cases e
    · cases e
  · cases e
def rSortAll (K : PySem.W.Frag) : List V → Hp → VK → Prop := fun xs H Q => rSorted K xs H Q ∨ rSortD xs H Q
noncomputable def gSortAll : OD → Option OD := gOr1 gSorted gSortedD
theorem cr_sortAll (hc : X.calm = true) (hu : X.A.units + 67 < cLine) : CallR X (.builtin "sorted") (rSortAll X.K) := CallR.or (cr_sortedQ hu) (call_sortedDI hc)
theorem rg_sortAll : RG1 K (fun x H Q => rSortAll K [x] H Q) gSortAll := rg_sorted.or rg_sortD
/-! ### dict(pairs) -/
def rDict (K : PySem.W.Frag) : List V → Hp → VK → Prop := fun xs H Q => ∃ (a : Addr) (ps : List Addr) (kvs : List (Key × V)), xs = [.ref a] ∧ SqL K H a (ps.map V.ref) ∧ Paired (fun p kv => SqT K H p [kV kv.1, kv.2]) ps kvs ∧
    ∀ p, H p = none → Q (.ref p) (upd H p (.dK (mergeK [] kvs)))
theorem pairs_read (le : Ex S H) : ∀ {vs : List V} {ds : List D} {kvs : List (Key × D)}, vs.length = ds.length → RpI K S (vs.zip ds) → pairsD ds = some kvs → ∃ (ps : List Addr) (ks : List (Key × V)), vs = ps.map V.ref ∧ Paired (fun p kv => SqT K H p [kV kv.1, kv.2]) ps ks ∧ RpK K S ks kvs
  | [], [], kvs, _, _, h => by cases h; exact ⟨[], [], rfl, .nil, trivial⟩
  | v :: vs, d :: ds, kvs, hl, r, h => by
    simp only [List.zip_cons_cons] at r
    unfold pairsD at h
    split at h
    · cases ‹d :: ds = []›
    · rename_i k v' r' heq
      cases heq
      split at h
      · rename_i kk rr hk hr
        cases h
        obtain ⟨ps, ks, e1, e2, e3⟩ := pairs_read le (by simpa using hl) r.tail hr
        cases r.head with
        | @tup ad us _ _ a b c _ =>
          match us, b, c with
          | [u1, u2], _, c =>
            have h1 := keyD_rp c.head hk
            have h2 := c.tail.head
            subst h1
            exact ⟨ad :: ps, (kk, u2) :: ks, by rw [e1]; rfl, .cons (SqT.of (le _ _ a)) e2, rfl, h2, e3⟩
      · cases h
    · cases h
theorem rg_dict : RG1 K (fun x H Q => rDict K [x] H Q) gDict := by
  intro S H L x ox oz Q w e k
  unfold gDict at e
  split at e
  · rename_i ds hd
    split at e
    · rename_i kvs hk
      cases e
      obtain ⟨ad, vs, rfl, hA, hl, hr⟩ := w.at0.lst w.le hd
      obtain ⟨ps, ks, rfl, e2, e3⟩ := pairs_read w.le hl hr hk
      exact ⟨ad, ps, ks, rfl, SqL.of hA, e2, fun p hp => k _ S _ (ex_refl S) (Own.newK w (RpK.merge e3 (show RpK K S [] [] from trivial)) hp)⟩
    · cases e
  · cases e
/-! ### list(range(n)) -/
def fLRg (f : Fe) : Fe := fun ρ => match f ρ with
  | some (.st (.int j), ρ1) => if 0 ≤ j ∧ j ≤ 1000000 then some (.ol ((rngD 0 j.toNat).map .st), ρ1) else none
  | _ => none
theorem se_listRg {p1 p2 : Pos} (hm : X.mg "list" = none) (hm2 : X.mg "range" = none) (hc : X.calm = true) (h : SE X pin a ta f) (hg : Gl X "list" := by rfl) (hg2 : Gl X "range" := by rfl) (na : starEach [a] X.env = (false, eval a X.env) :: starEach [] X.env := by rfl)
    (na2 : starEach [.Call (.Name "range" p1) [a] [] p2] X.env = (false, eval (.Call (.Name "range" p1) [a] [] p2) X.env) :: starEach [] X.env := by rfl) : SE X pin (.Call (.Name "list" p) [.Call (.Name "range" p1) [a] [] p2] [] pos) (tLstRg (tRg1 ta)) (fLRg f) := by
  refine ⟨pe_listRg hc hg hm (prg_1 hg2 hm2 h.pe na) na2, ?_⟩
  intro S H T ρ σ F Q od ρ' w q k
  unfold fLRg at q
  split at q
  · rename_i j ρ1 q1
    split at q
    · rename_i hb
      cases q
      refine h.rd S H T ρ σ F _ _ _ w q1 fun v S1 H1 e1 w1 => ?_
      cases w1.known
      refine ⟨j, rfl, RgOk.of_le (by omega) (by omega) (by omega) hb.1, fun q hq => k _ S1 _ e1 ?_⟩
      have er : rgV 0 j = ((List.range j.toNat).map fun (i : Nat) => (0 + (i : Int))).map V.int := by
        unfold rgV
        rw [Int.sub_zero, List.map_map]
        rfl
      have ed : rngD 0 j.toNat = ((List.range j.toNat).map fun (i : Nat) => (0 + (i : Int))).map D.int := by
        unfold rngD
        rw [List.map_map]
        rfl
      rw [er, ed]
      have w2 := w1.tl
      exact w2.with (Own.newS w2.own (rpi_ints _) (by simp) hq)
    · cases q
  · cases q
/-! ### x.pop() -/
theorem Own.pop {q : Addr} {os : List OD} {o : OD} (h : Own K S H [] ((.ref q, .ol (os ++ [o])) :: L)) : ∃ vs v, H q = some (.lst (vs ++ [v])) ∧ Own K S (upd H q (.lst vs)) [] ((v, o) :: (.ref q, .ol os) :: L) := by
  obtain ⟨vs, h1, h2, h3, h4⟩ := h.open_
  have hne : vs ≠ [] := by
    intro z
    subst z
    simp at h2
  have e : vs = vs.dropLast ++ [vs.getLast hne] := (List.dropLast_concat_getLast hne).symm
  have hl : vs.dropLast.length = os.length := by
    rw [List.length_dropLast, h2]
    simp
  refine ⟨vs.dropLast, vs.getLast hne, by rw [← e]; exact h1, ?_⟩
  rw [e, zip_app hl] at h4
  refine (Own.close (os := os) (us := vs.dropLast) (l := (vs.getLast hne, o) :: L) (h4.perm ?_) hl (by simp)).perm (.swap _ _ _)
  simp only [List.zip_cons_cons, List.zip_nil_right, List.append_assoc, List.cons_append, List.nil_append]
  exact .refl _
def fPop (i : Nat) : Fe := fun ρ => match ρ[i]? with
  | some (some (.ol os)) => (match os.getLast? with
    | some o => some (o, ρ.set i (some (.ol os.dropLast)))
    | none => none)
  | _ => none
theorem re_pop {i : Nat} : RE K pin (tBM0 K "list" rPop (tVar i)) (fPop i) := by
  intro S H T ρ σ F Q od ρ' w e k
  unfold fPop at e
  split at e
  · rename_i os h0
    split at e
    · rename_i o hlast
      cases e
      obtain ⟨q, vs0, hv, hq, hl0, w1⟩ := sat_list w h0
      have he : os = os.dropLast ++ [od] := by
        have hne : os ≠ [] := by
          intro z
          subst z
          cases hlast
        rw [List.getLast?_eq_some_getLast hne] at hlast
        cases hlast
        exact (List.dropLast_concat_getLast hne).symm
      have o1 : Own K S H [] ((.ref q, .ol (os.dropLast ++ [od])) :: (T ++ (its (ρ.set i none) σ ++ F))) := by
        rw [← he]
        exact w1.own
      obtain ⟨vs, v, hq', o2⟩ := o1.pop
      refine ⟨.ref q, hv, .inl ⟨rfl, _, SqL.of hq'⟩, q, vs ++ [v], v, rfl, rfl, hq', by simp, ?_⟩
      rw [List.dropLast_concat]
      have w2 : Sat K pin S (upd H q (.lst vs)) ((.ref q, .ol os.dropLast) :: (v, od) :: T) (ρ.set i none) σ F := w1.with (o2.perm (.swap _ _ _))
      have w3 := w2.back hv
      rw [List.set_set] at w3
      exact k v S _ (ex_refl S) w3
    · cases e
  · cases e
theorem se_pop {i : Nat} {x : Str} {p2 : Pos} (hN : X.N[i]? = some x := by rfl) (hv : Vis X.env.scope x := by first | exact Or.inl rfl | exact Or.inr (Or.inl rfl) | exact Or.inr (Or.inr rfl)) (hd : (x == ("__debug__" : Str)) = false := by decide) (hcd : (x == ("__classdict__" : Str)) = false := by decide)
    (hbase : attributeBase (.Name x p2) "pop" X.env (eval (.Name x p2) X.env) = eval (.Name x p2) X.env := by rfl) (hline : (apos.endLine == pos.line) = true := by rfl) : SE X pin (.Call (.Attribute (.Name x p2) "pop" apos) [] [] pos) (tBM0 X.K "list" rPop (tVar i)) (fPop i) :=
  ⟨pe_bm0 PySem.F.plainAttrs_list PySem.F.slot_list_pop PySem.F.type_list_pop mt_pop (pe_var hN hv hd hcd) hbase hline, re_pop⟩
/-! ### a, b, c = x, y, z of plain locals -/
def gs3 (i j l : Nat) : List OD → Rho → Option Rho
  | [o1, o2, o3], ρ => if i < ρ.length ∧ j < ρ.length ∧ l < ρ.length then some (((ρ.set i (some o1)).set j (some o2)).set l (some o3)) else none
  | _, _ => none
theorem ss_par3 {i j l : Nat} {x y z : Str} {ta : TA} {ff : Fa} {px py pz pt : Pos} {kt k2 pt2} (hc : X.calm = true) (hN : X.N.Nodup) (hp1 : NoPin pin i) (hp2 : NoPin pin j) (hp3 : NoPin pin l) (hij : i ≠ j) (hil : i ≠ l) (hjl : j ≠ l) (ha : SA X pin [a, b, c] ta ff)
    (hi : X.N[i]? = some x := by rfl) (hj : X.N[j]? = some y := by rfl) (hl : X.N[l]? = some z := by rfl)
    (hx : X.env.scope.names.lookup x = some .local := by rfl) (hy : X.env.scope.names.lookup y = some .local := by rfl) (hz : X.env.scope.names.lookup z = some .local := by rfl)
    (hw : swappedStores [.Tuple [.Name x px, .Name y py, .Name z pz] kt pt] (.Tuple [a, b, c] k2 pt2) X.env = pure (some [x, y, z]) := by rfl)
    (hs : swapsWithSole [.Tuple [.Name x px, .Name y py, .Name z pz] kt pt] (.Tuple [a, b, c] k2 pt2) pos.line X.env = pure false := by rfl) :
    SS X pin (.Assign [.Tuple [.Name x px, .Name y py, .Name z pz] kt pt] (.Tuple [a, b, c] k2 pt2) pos) (tPar3 i j l ta) (fPar ff (gs3 i j l)) := by
  refine ⟨ps_par3 hc hN hi hj hl hij hil hjl hx hy hz ha.pe hw hs, ?_⟩
  intro S H ρ σ F E o w q k
  unfold fPar at q
  split at q
  · rename_i os ρ1 q1
    split at q
    · rename_i ρ2 q2
      cases q
      refine ha.rd S H [] ρ σ F _ _ _ w q1 fun vs S' H' x hl w' => ?_
      unfold gs3 at q2
      split at q2
      · rename_i o1 o2 o3
        split at q2
        · rename_i hb
          cases q2
          match vs, hl with
          | [v1, v2, v3], _ => exact ⟨v1, v2, v3, rfl, k S' H' _ x (((w'.asg hb.1 hp1).asg (by simpa using hb.2.1) hp2).asg (by simpa using hb.2.2) hp3)⟩
        · cases q2
      · cases q2
    · cases q
  · cases q
end
end Qy
set_option Elab.async false
set_option linter.all false
set_option maxRecDepth 100000
set_option maxHeartbeats 400000
/-! Own classes: making an instance, fields, constants of the class, operators. -/
namespace Qy
open PySem PySem.Spec PyProof.Rows L2 ClX
/-- the j-th statement of a class's body -/
def clsAt (st : Stmt) (j : Nat) : Stmt := match st with
  | .ClassDef (body := b) .. => b.getD j (.Pass ⟨0, 0, 0, 0⟩)
  | _ => .Pass ⟨0, 0, 0, 0⟩
/-- a method of the class cn -/
structure CalM (P : Program) (w : World) (K : PySem.W.Frag) (mg : Str → Option Value) (base : Heap) (cn m : Str) (k : Nat) (ps : List Str) (mi : Mir) : Prop where
  ex : ∃ f fd, PySem.W.findIn K (.ref (He.ga K cn)) m = some (some (.ref f)) ∧ PySem.W.isFn K (.ref f) = true ∧ PySem.W.keepIn K (.ref f) = true ∧ Binds K fd ps [] ∧ FnG P w K mg base CX0 k f fd ps (spM K ps.length mi)
structure MkE (K : PySem.W.Frag) (mg : Str → Option Value) (cn : Str) : Prop where
  mg : mg cn = some (.ref (He.ga K cn))
  makes : PySem.W.makesIn K (He.ga K cn) = true
  kp : PySem.W.keepIn K (.ref (He.ga K cn)) = true
section
variable {X : Cx} {pin : List (Option V)} {K : PySem.W.Frag} {S S' H : Hp} {e a b c : Expr} {es : List Expr} {t ta tb tc tj : TE} {tA : TA} {fA : Fa} {f fj : Fe} {oa ob : Fo} {pos p apos : Pos} {L T F : List It} {ρ ρ2 : Rho} {σ : L2.St} {cn m : Str} {mi : Mir} {k : Nat} {ps : List Str} {bk : List (Option Nat)}
/-! ### making -/
theorem pe_makeG {C f : Addr} {fd : FuncData} {sp : Sp} (hM : PySem.W.makesIn X.K C = true) (hi : PySem.W.findIn X.K (.ref C) "__init__" = some (some (.ref f))) (hf : PySem.W.isFn X.K (.ref f) = true) (hkp : PySem.W.keepIn X.K (.ref C) = true)
    (F : FnG X.prog X.w X.K X.mg X.base CX0 k f fd ps sp) (gd : X.A.guards = some []) (hr : Room (k + 1) X.A) (hm : X.mg cn = some (.ref C)) (hb : Binds X.K fd ps []) (ha : PA X (e :: es) tA) (hg : Gl X cn) (hdb : (cn == ("__debug__" : Str)) = false)
    (he : starEach (e :: es) X.env = (false, eval e X.env) :: starEach es X.env) (hpl : (backTo pos (starEach es X.env)).any (·.1) = false) : PE X (.Call (.Name cn p) (e :: es) [] pos) (tMake C sp [] E0 tA) := by
  refine ⟨fun pins s σ H Q I h => wpAny_Call_Name_kw (ld_glob I hg hm ?_ hdb)⟩
  refine PySem.W.callWith_K (h₀ := X.base) I.ok.mod.kin hkp (thn (ha.run pos pins s σ H _ I h) fun us s1 ⟨vs, H1, I1, r, q⟩ => ⟨I1.kIn, ?_⟩) he hpl
  have n1 := I1.hok.fresh (Nat.le_refl s1.heap.objs.size)
  have n2 := I1.hok.fresh (Nat.le_succ s1.heap.objs.size)
  have q2 := q (s1.heap.objs.size + 1) s1.heap.objs.size n2 n1 (Nat.ne_of_lt (Nat.lt_succ_self _))
  rw [List.append_nil] at q2
  have J := Inv.made (C := C) I1
  have r2 : Vals (V.ref (s1.heap.objs.size + 1) :: vs) (Value.ref (s1.heap.objs.size + 1) :: us) := .cons rfl r
  have hl : (Value.ref (s1.heap.objs.size + 1) :: us).length = ps.length := by rw [← r2.length]; exact F.len _ _ _ _ q2
  have hb1 := hb _ (Value.ref (s1.heap.objs.size + 1) :: us) J.kIn (by simpa using hl)
  rw [List.append_nil] at hb1
  refine wpAny_call (make_map (f := f) I1.kIn hM hi (beq_iff_eq.mp hf) (codeAny_mono (F.run _ X.stack _ _ _ _ _ _ E0 (show (X.A.under _).guards = some [] from gd) (hr.make C us []) (J.env0.make C us []) hb1 r2 q2) fun rr z hz => ?_))
  cases rr with
  | error er => exact (show False from hz).elim
  | ok fl =>
    cases fl with
    | ret u =>
      obtain ⟨v, H', I3, rv, ev, q3⟩ := J.after hz
      subst ev
      exact ⟨rv, V.ref (s1.heap.objs.size + 1), H', I3, rfl, q3⟩
    | next => exact hz.elim
    | brk => exact hz.elim
    | cont => exact hz.elim
def fMake (cn : Str) (m : Mir) (f : Fa) (bk : List (Option Nat)) : Fe := fun ρ => match f ρ with
  | none => none
  | some (ods, ρ1) => match m (.oi cn [] :: ods) with
    | some (.st .non, some (.oi c fs) :: outs) => if outs.length = ods.length then some (.st (.ins c (valF fs)), putBack bk outs ρ1) else none
    | _ => none
theorem Own.newI {q dx : Addr} (h : Own K S H [] L) (n : H q = none) (n2 : H dx = none) (ne : dx ≠ q) : Own K S (upd (upd H dx (.own q)) q (.ins (He.ga K cn) dx [])) [] ((.ref q, .oi cn []) :: L) := by
  have h1 := h.alloc (o := .own q) n2
  have n3 : upd H dx (.own q) q = none := by rw [upd_ne (Ne.symm ne)]; exact n
  obtain ⟨le, fp, w, nd, sn, _⟩ := h1
  have sq : S q = none := ex_none le n3
  have nq : q ∉ fp := fun z => by
    obtain ⟨u, hu⟩ := w.there q z
    rw [n3] at hu; cases hu
  refine ⟨ex_upd le sq, q :: ([] ++ fp), .oi upd_same rfl .nil (w.mono (ex_refl S) fun x hx => upd_ne fun z => nq (z ▸ hx)), List.nodup_cons.mpr ⟨nq, nd⟩, ?_, fun _ z => nomatch z⟩
  intro x hx
  rcases List.mem_cons.mp hx with rfl | hx
  · exact sq
  · exact sn x hx
theorem re_make {n : Nat} (h : RB K pin tA fA bk) (hn : ∀ ρ os ρ', fA ρ = some (os, ρ') → os.length + 1 = n) : RE K pin (tMake (He.ga K cn) (spM K n mi) [] E0 tA) (fMake cn mi fA bk) := by
  intro S H T ρ σ F Q od ρ' w e k
  unfold fMake at e
  split at e
  · cases e
  · rename_i ods ρ1 q1
    split at e
    · rename_i c fs outs q2
      split at e
      · rename_i hl2
        cases e
        refine h S H T ρ σ F _ _ _ w q1 fun vs S' H' x hl hb w' => ?_
        intro q dx n1 n2 ne
        have hn' := hn _ _ _ q1
        have ow := w'.own
        rw [List.append_assoc] at ow
        refine ⟨S', T ++ (its ρ1 σ ++ F), .oi cn [] :: ods, .st .non, some (.oi c fs) :: outs, by simp; omega, by simp; omega, by simp; omega, ?_, q2, fun v S2 H2 e2 o2 => ?_⟩
        · have := ow.newI (cn := cn) n1 n2 ne
          simpa using this
        · have hv : v = .non := by cases o2.known; rfl
          refine ⟨hv, ?_⟩
          have o3 : Own K S2 H2 [] ((.ref q, .oi c fs) :: (its outs (vs.map some) ++ (T ++ (its ρ1 σ ++ F)))) := by
            have := o2.tl
            simpa [its] using this
          obtain ⟨S3, e3, o4⟩ := o3.freeze1
          have w2 : Sat K pin S3 H2 (its outs (vs.map some) ++ ((.ref q, .st (.ins c (valF fs))) :: T)) ρ1 σ F := w'.with (by
            refine o4.perm ?_
            simp only [List.append_assoc, List.cons_append, OD.val]
            exact List.perm_middle.symm)
          exact k _ S3 H2 (ex_trans x (ex_trans e2 e3)) (sat_back bk outs vs ρ1 (by omega) hb w2)
      · cases e
    · cases e
theorem se_make (M : MkE X.K X.mg cn) (c : CalM X.prog X.w X.K X.mg X.base cn "__init__" k ps mi) (gd : X.A.guards = some []) (hr : Room (k + 1) X.A) (ha : SRB X pin (e :: es) tA fA bk) (hn : ∀ ρ os ρ', fA ρ = some (os, ρ') → os.length + 1 = ps.length)
    (hg : Gl X cn := by rfl) (hdb : (cn == ("__debug__" : Str)) = false := by decide) (he : starEach (e :: es) X.env = (false, eval e X.env) :: starEach es X.env := by rfl) (hpl : (backTo pos (starEach es X.env)).any (·.1) = false := by rfl)
    (hK : X.K = K := by rfl) : SE X pin (.Call (.Name cn p) (e :: es) [] pos) (tMake (He.ga K cn) (spM K ps.length mi) [] E0 tA) (fMake cn mi fA bk) := by
  subst hK
  obtain ⟨fa, fd, h1, h2, h3, h4, h5⟩ := c.ex
  exact ⟨pe_makeG M.makes h1 h2 M.kp h5 gd hr M.mg h4 ha.pe hg hdb he hpl, re_make ha.rd hn⟩
/-! ### fields -/
def gFld (cn f : Str) : OD → Option OD
  | .st (.ins c fs) => if c = cn then (fs.lookup f).map .st else none
  | _ => none
theorem rp_lookup {f : Str} : ∀ {vs : List (Str × V)} {ds : List (Str × D)} {d : D}, vs.map (·.1) = ds.map (·.1) → RpI K S ((vs.map (·.2)).zip (ds.map (·.2))) → ds.lookup f = some d → ∃ v, vs.lookup f = some v ∧ Rp K S v d
  | [], [], _, _, _, h => by cases h
  | [], _ :: _, _, h, _, _ => by simp at h
  | _ :: _, [], _, h, _, _ => by simp at h
  | (g, v) :: vs, (g', d') :: ds, d, hm, r, h => by
    simp only [List.map_cons, List.cons.injEq] at hm
    obtain ⟨rfl, hm⟩ := hm
    simp only [List.lookup_cons] at h ⊢
    cases q : (f == g) with
    | true => rw [q] at h; cases h; exact ⟨v, rfl, r.head⟩
    | false => rw [q] at h; exact rp_lookup hm r.tail h
theorem se_fld {f : Str} (hc : Cls X.K (He.ga X.K cn)) (hn : NoAttr X.K (He.ga X.K cn) f) (ha : SO X pin a ta oa) (hb : attributeBase a f X.env (eval a X.env) = eval a X.env := by rfl) : SE X pin (.Attribute a f pos) (tFld X.K ta f) (fUn (gFld cn f) oa) := by
  refine ⟨pe_fld ha.pe hb, ?_⟩
  have hr : RG1 X.K (fun x H1 Q => ∃ a C dx fs v, x = .ref a ∧ H1 a = some (.ins C dx fs) ∧ Cls X.K C ∧ NoAttr X.K C f ∧ fs.lookup f = some v ∧ Q v H1) (gFld cn f) := by
    intro S H L x ox oz Q w e k
    unfold gFld at e
    split at e
    · rename_i c fs
      split at e
      · rename_i he
        subst he
        obtain ⟨d, hd, rfl⟩ := Option.map_eq_some_iff.mp e
        cases w.at0.st with
        | ins h1 h2 h3 _ =>
          obtain ⟨v, hv, rv⟩ := rp_lookup h2 h3 hd
          exact ⟨_, _, _, _, v, rfl, w.le _ _ h1, hc, hn, hv, k v S H (ex_refl S) (w.push rv)⟩
      · cases e
    · cases e
  exact re_un (r := fun x H1 Q => ∃ a C dx fs v, x = .ref a ∧ H1 a = some (.ins C dx fs) ∧ Cls X.K C ∧ NoAttr X.K C f ∧ fs.lookup f = some v ∧ Q v H1) ha.rd hr
/-- self.f = v: a field that was not there -/
def fSetF (i : Nat) (cn f : Str) (fv : Fe) : Fs := fun ρ => match fv ρ with
  | some (o, ρ1) => (match ρ1[i]? with
    | some (some (.oi c fs)) => if c = cn ∧ fs.length < 900 ∧ (fs.all fun p => decide (p.1 ≠ f)) = true then some (.nx (ρ1.set i (some (.oi c (fs ++ [(f, o)]))))) else none
    | _ => none)
  | none => none
theorem putF_new {f : Str} {v : V} : ∀ {vs : List (Str × V)} {fs : List (Str × OD)}, vs.map (·.1) = fs.map (·.1) → (fs.all fun p => decide (p.1 ≠ f)) = true → putF f v vs = vs ++ [(f, v)]
  | [], _, _, _ => rfl
  | _ :: _, [], h, _ => by simp at h
  | (g, x) :: vs, (g', o) :: fs, hm, ha => by
    simp only [List.map_cons, List.cons.injEq] at hm
    obtain ⟨rfl, hm⟩ := hm
    simp only [List.all_cons, Bool.and_eq_true, decide_eq_true_eq] at ha
    show (if g = f then _ else _) = _
    rw [if_neg ha.1, putF_new hm ha.2, List.cons_append]
theorem Own.setF {q : Addr} {f c : Str} {v : V} {o : OD} {fs : List (Str × OD)} (h : Own K S H [] ((v, o) :: (.ref q, .oi c fs) :: L)) (hf : (fs.all fun p => decide (p.1 ≠ f)) = true) : ∃ dx vs, H q = some (.ins (He.ga K c) dx vs) ∧ vs.length = fs.length ∧ Own K S (upd H q (.ins (He.ga K c) dx (putF f v vs))) [] ((.ref q, .oi c (fs ++ [(f, o)])) :: L) := by
  obtain ⟨le, fp, w, nd, sn, _⟩ := h.perm (.swap _ _ _)
  cases w with
  | @oi _ _ dx vs _ _ f1 f2 h1 h2 h3 h4 =>
    have hl : vs.length = fs.length := by simpa using congrArg List.length h2
    refine ⟨dx, vs, h1, hl, ?_⟩
    obtain ⟨g1, g2, rfl, h5, h6⟩ := OwI.split (a := [(v, o)]) h4
    obtain ⟨n1, n2⟩ := List.nodup_cons.mp nd
    have sq := sn q List.mem_cons_self
    rw [putF_new h2 hf]
    refine ⟨ex_upd le sq, q :: ((f1 ++ g1) ++ g2), .oi upd_same (by simp [h2]) ?_ (h6.mono (ex_refl S) fun x hx => upd_ne fun (z : x = q) => n1 (by rw [← z]; simp [hx])), ?_, ?_, fun _ z => nomatch z⟩
    · have := OwI.append h3 h5
      have e1 : ((vs ++ [(f, v)]).map (·.2)).zip ((fs ++ [(f, o)]).map (·.2)) = (vs.map (·.2)).zip (fs.map (·.2)) ++ [(v, o)] := by
        rw [List.map_append, List.map_append, zip_app (by simp [hl])]
        rfl
      rw [e1]
      exact this.mono (ex_refl S) fun x hx => upd_ne fun (z : x = q) => n1 (by
        rw [← z]
        rcases List.mem_append.mp hx with hx | hx
        · exact List.mem_append_left _ hx
        · exact List.mem_append_right _ (List.mem_append_left _ hx))
    · rw [List.append_assoc]
      exact List.nodup_cons.mpr ⟨n1, n2⟩
    · intro x hx
      rw [List.append_assoc] at hx
      exact sn x hx
theorem ss_fld {i : Nat} {x f : Str} {p1 p2 : Pos} {fv : Fe} (hc : Cls X.K (He.ga X.K cn)) (hn : NoAttr X.K (He.ga X.K cn) f) (hv : SE X pin e t fv) (hN : X.N[i]? = some x := by rfl) (hvis : Vis X.env.scope x := by first | exact Or.inl rfl | exact Or.inr (Or.inl rfl) | exact Or.inr (Or.inr rfl)) (hd : (x == ("__debug__" : Str)) = false := by decide)
    (hcd : (x == ("__classdict__" : Str)) = false := by decide) (hs : swapsWith e (some (.Attribute (.Name x p1) f p2)) pos.line X.env = pure false := by rfl) : SS X pin (.Assign [.Attribute (.Name x p1) f p2] e pos) (sFld X.K (tVar i) t f) (fSetF i cn f fv) := by
  refine ⟨ps_fld (pe_var hN hvis hd hcd) hv.pe hs, ?_⟩
  intro S H ρ σ F E o w q k
  unfold fSetF at q
  split at q
  · rename_i ov ρ1 q1
    split at q
    · rename_i c fs h0
      split at q
      · rename_i hb
        cases q
        obtain ⟨rfl, hlen, hall⟩ := hb
        refine hv.rd S H [] ρ σ F _ _ _ w q1 fun v S1 H1 e1 w1 => ?_
        obtain ⟨u, hu, w2⟩ := w1.take h0
        have o2 : Own X.K S1 H1 [] ((u, .oi c fs) :: (v, ov) :: ([] ++ (its (ρ1.set i none) σ ++ F))) := w2.own
        have hur : ∃ q, u = .ref q := by
          obtain ⟨fp, z⟩ := o2.at0
          cases z with
          | oi _ _ _ _ => exact ⟨_, rfl⟩
        obtain ⟨q, rfl⟩ := hur
        obtain ⟨dx, vs, a1, a2, a3⟩ := (o2.perm (.swap _ _ _)).setF (f := f) hall
        refine ⟨.ref q, hu, q, _, dx, vs, rfl, a1, hc, hn, by omega, ?_⟩
        have w3 : Sat X.K pin S1 (upd H1 q (.ins (He.ga X.K c) dx (putF f v vs))) [(.ref q, .oi c (fs ++ [(f, ov)]))] (ρ1.set i none) σ F := w2.with a3
        have w4 := w3.back hu
        rw [List.set_set] at w4
        exact k S1 _ σ e1 w4
      · cases q
    · cases q
  · cases q
/-! ### a constant of the class -/
theorem se_cint {f : Str} {i : Int} {mc : Value} {p1 : Pos} (hm : X.mg cn = some (.ref (He.ga X.K cn))) (hr : CRead X.K (He.ga X.K cn) mc) (hv : ∃ u, CVal X.K (He.ga X.K cn) mc f (.int i) u) (hg : Gl X cn := by rfl) (hd : (cn == ("__debug__" : Str)) = false := by decide)
    (hb : attributeBase (.Name cn p1) f X.env (eval (.Name cn p1) X.env) = eval (.Name cn p1) X.env := by rfl) : SE X pin (.Attribute (.Name cn p1) f pos) (tCVal X.K (tC (.ref (He.ga X.K cn))) f) (fC (.int i)) := by
  refine ⟨pe_cval (pe_glob hg hm rfl hd) hb, ?_⟩
  intro S H T ρ σ F Q od ρ' w e k
  cases e
  obtain ⟨u, hv⟩ := hv
  exact ⟨_, mc, _, u, rfl, hr, hv, k _ S H (ex_refl S) (w.push (.int .nil))⟩
/-! ### operators of one's own, the right side a text -/
structure OpE (K : PySem.W.Frag) (cn : Str) (op : Operator) : Prop where
  first : PySem.W.selfFirst K (He.ga K cn) = true
  noR : PySem.W.findIn K (.ref (He.ga K cn)) (PySem.dunderR op.info.2) = some none
  s1 : ∃ fo, PySem.W.findIn K (.type "str") (PySem.dunder op.info.2) = some fo
  s2 : ∃ ro, PySem.W.findIn K (.type "str") (PySem.dunderR op.info.2) = some ro
  sub : PySem.W.subIn K (.type "str") (.ref (He.ga K cn)) = some false
def rOwnS (K : PySem.W.Frag) (cn : Str) (sp : Sp) : R2 := fun x y H Q => ∃ a dx fs z, x = .ref a ∧ y = .str z ∧ H a = some (.ins (He.ga K cn) dx fs) ∧ sp [x, y] H (fun v H' => (∃ b, v = .ref b) ∧ Q v H') E0
theorem op_ownS {op : Operator} (O : OpE X.K cn op) (c : CalM X.prog X.w X.K X.mg X.base cn (PySem.dunder op.info.2) k ps mi) (gd : X.A.guards = some []) (hr : Room k X.A) : OpR X (binaryOp op) (rOwnS X.K cn (spM X.K ps.length mi)) := by
  intro pins s σ H x y v u Q I rx ry h
  obtain ⟨ad, dx, fs, z, rfl, rfl, ha, q⟩ := h
  cases rx
  obtain ⟨tk, rfl⟩ := ry
  obtain ⟨f, fd, h1, h2, h3, h4, h5⟩ := c.ex
  obtain ⟨m, hF⟩ := I.fr
  obtain ⟨mA, O1, _⟩ := ins_get I.hok ha
  obtain ⟨od, J, _⟩ := O1.look
  obtain ⟨fo, s1⟩ := O.s1
  obtain ⟨ro, s2⟩ := O.s2
  refine PySem.W.ksp_binT (T := "str") hF I.ok.mod.kin J rfl O.first h1 h2 O.noR (.inl rfl) s1 s2 O.sub ?_
  have hl : ([Value.ref ad, Value.str z tk] : List Value).length = ps.length := by
    have := h5.len _ _ _ _ q
    simpa using this
  have hb := h4 s [Value.ref ad, Value.str z tk] I.kIn (by simpa using hl)
  rw [List.append_nil] at hb
  have := wp_g (run_g (vs := [.ref ad, .str z]) h5 gd hr pass0 I hb (.cons rfl (.cons ⟨tk, rfl⟩ .nil)) q)
  refine wpAny_mono this (fun r z hz => ?_) fun _ _ y => y
  obtain ⟨v, H', I', rv, ⟨b, hv⟩, q'⟩ := hz
  subst hv
  cases rv
  exact ⟨.ref b, H', I', rfl, q'⟩
def gOwn (m : Mir) : OD → OD → Option OD
  | .st (.ins c fs), .st (.str z) => (match m [.st (.ins c fs), .st (.str z)] with
    | some (.st (.ins c' fs'), outs) => if outs.length = 2 then some (.st (.ins c' fs')) else none
    | _ => none)
  | _, _ => none
def gOwnS (cn : Str) (m : Mir) : OD → OD → Option OD := fun a b => match a with
  | .st (.ins c _) => if c = cn then gOwn m a b else none
  | _ => none
theorem rg_ownS : RG2 K (rOwnS K cn (spM K 2 mi)) (gOwnS cn mi) := by
  intro S H L x y ox oy oz Q w e k
  unfold gOwnS at e
  split at e
  · rename_i c fs
    split at e
    · rename_i hc
      subst hc
      unfold gOwn at e
      split at e
      · rename_i c' fs' z heq
        cases heq
        split at e
        · rename_i c2 fs2 outs hm
          split at e
          · rename_i hl
            cases e
            have r1 := w.at1.st
            have r2 := w.at0.st
            cases r2
            cases r1 with
            | @ins ad _ dx vs _ _ a1 a2 a3 _ =>
              refine ⟨ad, dx, vs, z, rfl, rfl, w.le _ _ a1, S, L, [.st (.ins c fs), .st (.str z)], .st (.ins c2 fs2), outs, rfl, rfl, hl, w.perm (.swap _ _ _), hm, fun v S' H' e' o' => ?_⟩
              have hv : ∃ b, v = .ref b := by
                cases o'.known
                exact ⟨_, rfl⟩
              refine ⟨hv, k v S' H' e' ?_⟩
              have o2 : Own K S' H' [] ((v, .st (.ins c2 fs2)) :: L) := Own.sub o' ⟨its outs (([.ref ad, .str z] : List V).map some), List.perm_middle.symm⟩
              have r1' : Rp K S' (.ref ad) (.ins c fs) := RpI.mono e' (.ins a1 a2 a3 .nil)
              have o3 := (o2.push r1').push (show Rp K S' (.str z) (.str z) from .str .nil)
              exact o3.perm ((List.Perm.cons _ (.swap _ _ _)).trans (.swap _ _ _))
          · cases e
        · cases e
      · cases e
    · cases e
  · cases e
end
end Qy
namespace Qy
open PySem PySem.Spec PyProof.Rows L2
theorem u1 {k : Nat} {A : Around} (hr : Room k A) : A.units + 1 < cLine := by have := hr.un; omega
theorem len_succ {f : Fa} {n : Nat} (h : ∀ ρ os ρ', f ρ = some (os, ρ') → os.length = n) : ∀ ρ os ρ', f ρ = some (os, ρ') → os.length + 1 = n + 1 := fun ρ os ρ' q => by rw [h ρ os ρ' q]
theorem se_dgetQ {X : Cx} {pin : List (Option V)} {a b : Expr} {ta tb : TE} {oa ob : Fo} {pos : Pos} (hu : X.A.units + 1 < cLine) (ha : SO X pin a ta oa) (hb : SO X pin b tb ob) (hs : NoSl b := by exact fun _ _ => rfl) : SE X pin (.Subscript a b pos) (tDGet ta tb) (fBin gDGet oa ob) := ⟨pe_dget hu ha.pe hb.pe hs, re_dget ha.rd hb.rd⟩
end Qy
set_option Elab.async false
set_option linter.all false
set_option maxRecDepth 100000
set_option maxHeartbeats 400000
/-! x.pop(j), x.reverse(), x.clear(), a text again and again. -/
namespace Qy
open PySem PySem.Spec PyProof.Rows L2
section
variable {X : Cx} {pin : List (Option V)} {K : PySem.W.Frag} {S S' H : Hp} {e a b c : Expr} {t ta tb tc tj : TE} {f fj : Fe} {oa ob : Fo} {pos p apos : Pos} {L T F : List It} {ρ ρ2 : Rho} {σ : L2.St}
theorem zip_erase {α β : Type} : ∀ {vs : List α} {os : List β} {j : Nat} {v : α} {o : β}, vs.length = os.length → vs[j]? = some v → os[j]? = some o → (vs.zip os).Perm ((v, o) :: (vs.eraseIdx j).zip (os.eraseIdx j))
  | [], _, j, _, _, _, h, _ => by simp at h
  | _ :: _, [], _, _, _, h, _, _ => by simp at h
  | x :: vs, y :: os, 0, v, o, hl, h1, h2 => by
    simp at h1 h2
    subst h1 h2
    simp
  | x :: vs, y :: os, j + 1, v, o, hl, h1, h2 => by
    have ih := zip_erase (vs := vs) (os := os) (j := j) (v := v) (o := o) (by simpa using hl) (by simpa using h1) (by simpa using h2)
    simp only [List.zip_cons_cons, List.eraseIdx_cons_succ]
    exact (ih.cons _).trans (.swap _ _ _)
theorem Own.popAt {q : Addr} {os : List OD} {o : OD} {j : Nat} (h : Own K S H [] ((.ref q, .ol os) :: L)) (hj : os[j]? = some o) : ∃ vs v, H q = some (.lst vs) ∧ vs.length = os.length ∧ vs[j]? = some v ∧ Own K S (upd H q (.lst (vs.eraseIdx j))) [] ((v, o) :: (.ref q, .ol (os.eraseIdx j)) :: L) := by
  obtain ⟨vs, h1, h2, h3, h4⟩ := h.open_
  have hjl : j < vs.length := by rw [h2]; exact (List.getElem?_eq_some_iff.mp hj).1
  have hv : vs[j]? = some vs[j] := List.getElem?_eq_getElem hjl
  refine ⟨vs, vs[j], h1, h2, hv, ?_⟩
  have hl : (vs.eraseIdx j).length = (os.eraseIdx j).length := by
    rw [List.length_eraseIdx, List.length_eraseIdx, h2]
  refine (Own.close (os := os.eraseIdx j) (us := vs.eraseIdx j) (l := (vs[j], o) :: L) (h4.perm ?_) hl (by simp)).perm (.swap _ _ _)
  refine ((zip_erase h2 hv hj).append_right L).trans ?_
  rw [List.cons_append]
  exact List.perm_middle.symm
def fPopAt (i : Nat) (f : Fe) : Fe := fun ρ => match ρ[i]? with
  | some (some (.ol _)) => (match f ρ with
    | some (.st (.int k), ρ1) => (match ρ1[i]? with
      | some (some (.ol os)) => (match ixN os.length k with
        | some j => (match os[j]? with
          | some o => if os.length ≤ big then some (o, ρ1.set i (some (.ol (os.eraseIdx j)))) else none
          | none => none)
        | none => none)
      | _ => none)
    | _ => none)
  | _ => none
theorem re_popAt {i : Nat} (h : RE K pin t f) : RE K pin (tBM K "list" rPopAt (tVar i) (tCons t tNil)) (fPopAt i f) := by
  intro S H T ρ σ F Q od ρ' w e k
  unfold fPopAt at e
  split at e
  · rename_i os0 h0
    obtain ⟨p0, vs0, hv0, hp0, _, _⟩ := sat_list w h0
    split at e
    · rename_i kk ρ1 q1
      split at e
      · rename_i os h1
        split at e
        · rename_i j hj
          split at e
          · rename_i o ho
            split at e
            · rename_i hb
              cases e
              refine ⟨.ref p0, hv0, .inl ⟨rfl, vs0, SqL.of hp0⟩, h S H T ρ σ F _ _ ρ1 w q1 fun v S1 H1 e1 w1 => ?_⟩
              cases w1.known
              obtain ⟨p, vs, hv, hp, hl, w2⟩ := sat_list w1.tl h1
              rw [hv0] at hv
              cases hv
              have o2 : Own K S1 H1 [] ((.ref p0, .ol os) :: (T ++ (its (ρ1.set i none) σ ++ F))) := w2.own
              obtain ⟨vs', v', hp', hl', hvj, o3⟩ := o2.popAt ho
              rw [hp] at hp'
              cases hp'
              obtain ⟨z1, z2, z3, z4⟩ := ixN_seq hj
              have hbb : os.length ≤ 1000000 := hb
              refine ⟨p0, vs, kk, j, v', rfl, rfl, hp, by omega, by omega, by rw [hl]; exact z1, hvj, k v' S1 _ e1 ?_⟩
              have w3 : Sat K pin S1 (upd H1 p0 (.lst (vs.eraseIdx j))) ((.ref p0, .ol (os.eraseIdx j)) :: (v', od) :: T) (ρ1.set i none) σ F := w2.with (o3.perm (.swap _ _ _))
              have w4 := w3.back hv0
              rw [List.set_set] at w4
              exact w4
            · cases e
          · cases e
        · cases e
      · cases e
    · cases e
  · cases e
theorem se_popAt {i : Nat} {x : Str} {p2 : Pos} (h : SE X pin e t f) (hN : X.N[i]? = some x := by rfl) (hv : Vis X.env.scope x := by first | exact Or.inl rfl | exact Or.inr (Or.inl rfl) | exact Or.inr (Or.inr rfl)) (hd : (x == ("__debug__" : Str)) = false := by decide) (hcd : (x == ("__classdict__" : Str)) = false := by decide)
    (hbase : attributeBase (.Name x p2) "pop" X.env (eval (.Name x p2) X.env) = eval (.Name x p2) X.env := by rfl)
    (hfew : ((backTo pos (starEach [e] X.env)).all (fun x => !x.1) && (backToKw pos (keywordEach [] X.env)).all (fun x => x.1.isSome) && decide (([e] : List Expr).length + ([] : List Keyword).length + (if ([] : List Keyword).isEmpty then 0 else 1) < 30)) = true := by rfl)
    (hline : (apos.endLine == pos.line) = true := by rfl) (hs : starEach [e] X.env = (false, eval e X.env) :: starEach [] X.env := by rfl) : SE X pin (.Call (.Attribute (.Name x p2) "pop" apos) [e] [] pos) (tBM X.K "list" rPopAt (tVar i) (tCons t tNil)) (fPopAt i f) :=
  ⟨pe_bm PySem.F.plainAttrs_list PySem.F.slot_list_pop PySem.F.type_list_pop mt_popAt (pe_var hN hv hd hcd) (pa_cons h.pe pa_nil hs) hbase hfew hline hs rfl, re_popAt h.rd⟩
/-! ### a list in a slot that is turned round or emptied -/
theorem zip_rev {α β : Type} {vs : List α} {os : List β} (h : vs.length = os.length) : (vs.reverse.zip os.reverse) = (vs.zip os).reverse := by
  induction vs generalizing os with
  | nil => cases os with
    | nil => rfl
    | cons y os => cases h
  | cons x vs ih => cases os with
    | nil => cases h
    | cons y os =>
      have hl : vs.length = os.length := by simpa using h
      rw [List.reverse_cons, List.reverse_cons, zip_app (by simpa using hl), ih hl]
      simp
def fRev (i : Nat) : Fe := fun ρ => match ρ[i]? with
  | some (some (.ol os)) => some (.st .non, ρ.set i (some (.ol os.reverse)))
  | _ => none
theorem re_rev {i : Nat} : RE K pin (tBM0 K "list" rReverse (tVar i)) (fRev i) := by
  intro S H T ρ σ F Q od ρ' w e k
  unfold fRev at e
  split at e
  · rename_i os h0
    cases e
    obtain ⟨q, vs0, hv, hq, hl0, w1⟩ := sat_list w h0
    have o1 : Own K S H [] ((.ref q, .ol os) :: (T ++ (its (ρ.set i none) σ ++ F))) := w1.own
    obtain ⟨vs, h1, h2, h3, h4⟩ := o1.open_
    rw [hq] at h1
    cases h1
    refine ⟨.ref q, hv, .inl ⟨rfl, _, SqL.of hq⟩, q, vs0, rfl, rfl, hq, ?_⟩
    have o2 := Own.close (os := os.reverse) (us := vs0.reverse) (l := (T ++ (its (ρ.set i none) σ ++ F))) (h4.perm (by
      rw [zip_rev h2]
      exact (List.reverse_perm _).symm.append_right _)) (by simp [h2]) (by simp)
    have w2 : Sat K pin S (upd H q (.lst vs0.reverse)) ((.ref q, .ol os.reverse) :: T) (ρ.set i none) σ F := w1.with o2
    have w3 := w2.back hv
    rw [List.set_set] at w3
    exact k _ S _ (ex_refl S) (w3.push (.non .nil))
  · cases e
def fClr (i : Nat) : Fe := fun ρ => match ρ[i]? with
  | some (some (.ol _)) => some (.st .non, ρ.set i (some (.ol [])))
  | _ => none
theorem re_clr {i : Nat} : RE K pin (tBM0 K "list" rClear (tVar i)) (fClr i) := by
  intro S H T ρ σ F Q od ρ' w e k
  unfold fClr at e
  split at e
  · rename_i os h0
    cases e
    obtain ⟨q, vs0, hv, hq, hl0, w1⟩ := sat_list w h0
    have o1 : Own K S H [] ((.ref q, .ol os) :: (T ++ (its (ρ.set i none) σ ++ F))) := w1.own
    obtain ⟨vs, h1, h2, h3, h4⟩ := o1.open_
    refine ⟨.ref q, hv, .inl ⟨rfl, _, SqL.of hq⟩, q, vs0, rfl, rfl, hq, ?_⟩
    have o4 : Own K S H [q] (T ++ (its (ρ.set i none) σ ++ F)) := Own.drop (r := vs.zip os) h4
    have o2 := Own.close (os := []) (us := []) (l := (T ++ (its (ρ.set i none) σ ++ F))) o4 rfl (by simp)
    have w2 : Sat K pin S (upd H q (.lst [])) ((.ref q, .ol []) :: T) (ρ.set i none) σ F := w1.with o2
    have w3 := w2.back hv
    rw [List.set_set] at w3
    exact k _ S _ (ex_refl S) (w3.push (.non .nil))
  · cases e
theorem se_rev {i : Nat} {x : Str} {p2 : Pos} (hN : X.N[i]? = some x := by rfl) (hv : Vis X.env.scope x := by first | exact Or.inl rfl | exact Or.inr (Or.inl rfl) | exact Or.inr (Or.inr rfl)) (hd : (x == ("__debug__" : Str)) = false := by decide) (hcd : (x == ("__classdict__" : Str)) = false := by decide)
    (hbase : attributeBase (.Name x p2) "reverse" X.env (eval (.Name x p2) X.env) = eval (.Name x p2) X.env := by rfl) (hline : (apos.endLine == pos.line) = true := by rfl) : SE X pin (.Call (.Attribute (.Name x p2) "reverse" apos) [] [] pos) (tBM0 X.K "list" rReverse (tVar i)) (fRev i) :=
  ⟨pe_bm0 PySem.F.plainAttrs_list PySem.F.slot_list_reverse PySem.F.type_list_reverse mt_reverse (pe_var hN hv hd hcd) hbase hline, re_rev⟩
theorem se_clr {i : Nat} {x : Str} {p2 : Pos} (hN : X.N[i]? = some x := by rfl) (hv : Vis X.env.scope x := by first | exact Or.inl rfl | exact Or.inr (Or.inl rfl) | exact Or.inr (Or.inr rfl)) (hd : (x == ("__debug__" : Str)) = false := by decide) (hcd : (x == ("__classdict__" : Str)) = false := by decide)
    (hbase : attributeBase (.Name x p2) "clear" X.env (eval (.Name x p2) X.env) = eval (.Name x p2) X.env := by rfl) (hline : (apos.endLine == pos.line) = true := by rfl) : SE X pin (.Call (.Attribute (.Name x p2) "clear" apos) [] [] pos) (tBM0 X.K "list" rClear (tVar i)) (fClr i) :=
  ⟨pe_bm0 PySem.F.plainAttrs_list PySem.F.slot_list_clear PySem.F.type_list_clear mt_clear (pe_var hN hv hd hcd) hbase hline, re_clr⟩
/-! ### a text again and again -/
def gRepS : OD → OD → Option OD
  | .st (.str z), .st (.int n) => if 0 ≤ n ∧ n ≤ 1000 ∧ z.length ≤ 1000 then some (.st (.str (Txt.mul z n))) else none
  | _, _ => none
def rRepS : R2 := fun x y H Q => ∃ z n, x = .str z ∧ y = .int n ∧ 0 ≤ n ∧ n ≤ 1000 ∧ z.length ≤ 1000 ∧ Q (.str (Txt.mul z n)) H
theorem op_repS : OpR X (binaryOp .Mult) rRepS := by
  intro pins s σ H x y v u Q I rx ry h
  obtain ⟨z, n, rfl, rfl, h0, h1, h2, q⟩ := h
  obtain ⟨t, rfl⟩ := rx
  obtain ⟨t', rfl⟩ := ry
  refine SB.mul ⟨?_, fun g1 g2 => ?_, fun g1 g2 => ?_⟩ fun t2 k2 => ⟨.str (Txt.mul z n), H, I.tok _, ⟨_, rfl⟩, q⟩
  · simp; omega
  · have hz : (z.length : Int) ≤ 1000 := by omega
    have hd : (1000 : Int) ≤ (2 ^ 63 - 1) / n := by
      rw [Int.le_ediv_iff_mul_le (by omega)]
      omega
    omega
  · have hm : z.length * n.toNat ≤ 1000 * 1000 := Nat.mul_le_mul h2 (by omega)
    unfold Builtin.Str.tooLong
    have hs := sizeLine_eq
    simp
    omega
theorem rg_repS : RG2 K rRepS gRepS := by
  intro S H L x y ox oy oz Q w e k
  unfold gRepS at e
  split at e
  · rename_i z n
    split at e
    · rename_i hc
      cases e
      have r1 := w.at1.st
      have r2 := w.at0.st
      cases r1
      cases r2
      exact ⟨z, n, rfl, rfl, hc.1, hc.2.1, hc.2.2, k _ S H (ex_refl S) (w.push (.str .nil))⟩
    · cases e
  · cases e
def gMulQ := gOr2 gMulI gRepS
def rMulQ : R2 := fun x y H Q => rI CMul (fun i j => .int (i * j)) x y H Q ∨ rRepS x y H Q
theorem op_mulQ : OpR X (binaryOp .Mult) rMulQ := OpR.or op_mul op_repS
theorem rg_mulQ : RG2 K rMulQ gMulQ := rg_mul.or rg_repS
end
end Qy
set_option Elab.async false
set_option linter.all false
set_option maxRecDepth 100000
set_option maxHeartbeats 1000000
/-! enumerate(t), t a tuple. -/
namespace Qy
open PySem PySem.Spec PyProof.Rows L2
/-- enumerate of what an iterator is begun of, counted from nought -/
theorem enum_made {v : Value} {o : Obj} {G : Heap → Prop} (B : Begins v o G) :
    Meets (Builtin.«enumerate.__new__» ⟨[.type "enumerate", v], []⟩) (fun _ R z => G z.heap ∧
      R (.ok (.ret (.ref (z.heap.push o).objs.size))) { z with heap := (z.heap.push o).push { cls := .type "enumerate", data := .fields #[.none, .bool false, .ref z.heap.objs.size, rawInt 0, .none, .none] } }) :=
  .of_wp fun prog w A R z h => by
    obtain ⟨hp, gs, dr, tk, os⟩ := z; obtain ⟨g1, h⟩ := h
    have es := sub_enumerate
    have it1 : ∀ {A' : Around} {E : Value → Shared → Prop} {Q : Value → Shared → Prop}, Q (.ref hp.objs.size) ⟨hp.push o, gs, dr, tk, os⟩ → wpAny (model prog w) A' (pyIter v) Q E ⟨hp, gs, dr, tk, os⟩ :=
      fun q => B.iter prog w _ _ ⟨hp, gs, dr, tk, os⟩ _ g1 q
    wp_walk using it1
    refine wpAny_stack_any fun stk => wpAny_pure ?_
    split
    · rename_i cc _ _ _ _ _
      cases (cc == Value.type "enumerate") <;> (wp_walk using it1; exact ⟨_, rfl, h⟩)
    · wp_walk using it1; exact ⟨_, rfl, h⟩
section
variable {prog : Program} {w : World} {A : Around} {E : Value → Shared → Prop} {z : Shared}
theorem enum_call {v : Value} {o : Obj} {G : Heap → Prop} {Q : Value → Shared → Prop} (B : Begins v o G) (g1 : G z.heap)
    (k : ∀ h2, IsEnum h2 (z.heap.objs.size + 1) z.heap.objs.size 0 .none → h2.get? z.heap.objs.size = some o → (∀ b u, z.heap.get? b = some u → h2.get? b = some u) → Q (.ref (z.heap.objs.size + 1)) { z with heap := h2 }) :
    wpAny (model prog w) A (call (.type "enumerate") [v]) Q E z := by
  refine callType_new F.called_enumerate (by decide) (F.typeCall_enumerate_1 _) (F.newCall_enumerate_1 _) (fun ob => F.args_object_init_2 ob _) F.entry_enumerate_new (enum_made B) ⟨g1, ?_⟩
  have n1 : (z.heap.push o).objs.size = z.heap.objs.size + 1 := Heap.size_push ..
  show _ ∧ _
  rw [n1]
  have he : IsEnum ((z.heap.push o).push { cls := .type "enumerate", data := .fields #[.none, .bool false, .ref z.heap.objs.size, rawInt 0, .none, .none] }) (z.heap.objs.size + 1) z.heap.objs.size 0 .none := by
    have y := Heap.get?_push_size (z.heap.push o) (o := { cls := .type "enumerate", data := .fields #[.none, .bool false, .ref z.heap.objs.size, rawInt 0, .none, .none] }) rfl
    rw [n1] at y
    exact y
  exact ⟨⟨_, he, rfl⟩, k _ he (Heap.get?_push_of_some _ (Heap.get?_push_size _ B.free)) fun b u y => Heap.get?_push_of_some _ (Heap.get?_push_of_some _ y)⟩
end
/-- the items of the tuple at a, each in a new pair with its place -/
def IteT (K : PySem.W.Frag) (a : Addr) : L2.It where
  go := fun i H => ∃ (xs : List V) (x : V), SqT K H a xs ∧ xs[i]? = some x
  yld := fun i H v H' => ∃ T x, v = .ref T ∧ H T = none ∧ H' = upd H T (.tup [.int (i : Nat), x]) ∧ ∀ xs, SqT K H a xs → xs[i]? = some x
  stop := fun i H => ∃ xs : List V, SqT K H a xs ∧ xs.length ≤ i
theorem turn_enumT {P : Program} {w : World} {K : PySem.W.Frag} {elts : List Expr} {kk : Nat} {tpos : Pos} (a e it : Addr) :
    Turn P w K (.Tuple elts kk tpos) (IteT K a) [e, it] e (fun i h => (∃ old, IsEnum h e it ((i : Nat) : Int) old) ∧ h.IsTupleIter it a i ∧ e ≠ it) where
  mem := List.mem_cons_self
  obj := by
    rintro i h ⟨⟨old, he⟩, ⟨o, ho, hc, hd⟩, _⟩ b hb
    rcases List.mem_cons.mp hb with rfl | hb
    · exact ⟨_, he, fun v q => nomatch q⟩
    · rw [List.mem_singleton.mp hb]
      exact ⟨o, ho, fun v q => by rw [hd] at q; cases q⟩
  keep := by
    rintro i h h' ⟨⟨old, he⟩, hi, hne⟩ k
    exact ⟨⟨old, k e List.mem_cons_self _ he⟩, hi.at fun o q => k it (List.mem_cons_of_mem _ List.mem_cons_self) o q, hne⟩
  item := by
    intro X hP hw hK hc i pins s σ H E I hf st hg
    subst hP hw hK
    obtain ⟨⟨old, he⟩, hit, hne⟩ := st
    obtain ⟨xs, x, hq, hx⟩ := hg
    obtain ⟨its, rv, p, hz⟩ := I.tuple hq
    obtain ⟨u, hu, ru⟩ := rv.get hx
    have hel : e < s.heap.objs.size := Heap.lt_size he
    have hil : it < s.heap.objs.size := by obtain ⟨_, q, _⟩ := hit; exact Heap.lt_size q
    have hai : a ≠ it := by
      intro y
      obtain ⟨o1, g1, c1, _⟩ := p
      obtain ⟨o2, g2, c2, _⟩ := hit
      rw [y, g2] at g1
      cases g1
      rw [c2] at c1
      simp at c1
    have hae : a ≠ e := by
      intro y
      obtain ⟨o1, g1, c1, _⟩ := p
      rw [y, he] at g1
      cases g1
      simp at c1
    have hh : X.A.in1.handled = none := by simp [I.ok.hd hc]
    have hlt : i < its.toArray.size := by
      rw [List.size_toArray, ← rv.length]
      exact (List.getElem?_eq_some_iff.mp hx).1
    refine wpAny_pyNext_enum_itemD (Draws.tuple hh it a hai its.toArray) he ⟨hit, p⟩ hlt hne (by
      intro y
      rcases List.mem_cons.mp y with y | y
      · exact hne y
      · exact hae (List.mem_singleton.mp y).symm) fun y h' tk hy ho hit' hT hsz hk => ?_
    have hyu : y = u := by
      have : its[i]? = some y := by simpa using hy
      rw [hu] at this
      exact (Option.some.inj this).symm
    subst hyu
    refine ⟨_, rfl, wpAny_letOwnedTupleGo_enum (s := { s with heap := h', toks := tk + 1 }) ho fun h'' he' sb => ?_⟩
    have hT2 : h''.get? s.heap.objs.size = some { cls := .type "tuple", data := .seq #[.int i tk, y] } := (sb.2 _ (Nat.ne_of_gt hel)).trans hT
    have new : ObjOk X.prog X.w (upd H s.heap.objs.size (.tup [.int (i : Nat), x])) h'' s.heap.objs.size (.tup [.int (i : Nat), x]) :=
      ⟨by show 2 ≤ sizeLine; decide, [.int i tk, y], .cons ⟨_, rfl⟩ (.cons ru .nil), ⟨_, hT2, rfl, _, rfl⟩⟩
    have two : ∀ b : Addr, b ∉ [e, it] → b ≠ e ∧ b ≠ it := fun b hb => ⟨fun y => hb (y ▸ List.mem_cons_self), fun y => hb (y ▸ List.mem_cons_of_mem _ List.mem_cons_self)⟩
    have I1 : Inv X pins σ (upd H s.heap.objs.size (.tup [.int (i : Nat), x])) { s with heap := h'', toks := tk + 1 } :=
      I.turnedNew (ch := [e, it]) (fun b ob hb q => (sb.2 b (two b hb).1).trans (hk b ob (two b hb).1 (two b hb).2 q)) hf (Nat.le_refl _) new
    refine ⟨.ref s.heap.objs.size, _, I1, rfl, ⟨_, x, rfl, I.hok.fresh (Nat.le_refl _), rfl, fun ys hy2 => by rw [I.tuple_inj hy2 hq]; exact hx⟩, ⟨⟨y, ?_⟩, hit'.1.at fun o q => (sb.2 it (Ne.symm hne)).trans q, hne⟩, fun b hb => ?_⟩
    · rw [show ((i + 1 : Nat) : Int) = (i : Int) + 1 by omega]
      exact he'
    · have hb' : b < s.heap.objs.size := by
        rcases List.mem_cons.mp hb with y | y
        · rw [y]; exact hel
        · rw [List.mem_singleton.mp y]; exact hil
      rw [upd_ne (Nat.ne_of_lt hb')]
      exact (hf b hb).1
  done := by
    intro X hP hw hK hc i pins s σ H E I hf st hg
    subst hP hw hK
    obtain ⟨⟨old, he⟩, hit, hne⟩ := st
    obtain ⟨xs, hq, hx⟩ := hg
    obtain ⟨its, rv, p, hz⟩ := I.tuple hq
    obtain ⟨f0, f1, f2, f3, f4, f5⟩ := hf it (List.mem_cons_of_mem _ List.mem_cons_self)
    have hai : a ≠ it := by
      intro y
      obtain ⟨o1, g1, c1, _⟩ := p
      obtain ⟨o2, g2, c2, _⟩ := hit
      rw [y, g2] at g1
      cases g1
      rw [c2] at c1
      simp at c1
    have hh : X.A.in1.handled = none := by simp [I.ok.hd hc]
    have hsz : its.toArray.size ≤ i := by
      rw [List.size_toArray, ← rv.length]
      exact hx
    have D : Draws X.prog X.w X.A.in1 it [it, a] i (fun _ _ => True) (fun j h => j = i ∧ h.IsTupleIter it a i ∧ h.IsTuple a its.toArray) :=
      { live := fun _ _ st => let ⟨o, ho, _⟩ := st.2.1; ⟨o, ho⟩
        frame := fun _ _ _ st hk => ⟨st.1, st.2.1.at fun o e => hk it List.mem_cons_self o e, st.2.2.at fun o e => hk a (List.mem_cons_of_mem _ List.mem_cons_self) o e⟩
        item := fun j _ _ _ hj st _ => absurd st.1 (Nat.ne_of_lt hj)
        done := fun _ _ _ st hE => wpAny_nextOf_tuple_end hh st.2.1 st.2.2 (by simp; simpa using hsz) hE }
    exact wpAny_pyNext_enum_endD D he ⟨rfl, hit, p⟩ fun h' eb => ⟨rfl, I.turned (t' := s.toks) (fun b o hb q => eb b o hb q) f0 f1 f3 f4 f5⟩
  self := fun A i s Q E st h => let ⟨⟨_, he⟩, _⟩ := st; wpAny_pyIter_enum he h
def iEnumT (K : PySem.W.Frag) (ta : TA) : TI := fun σ H R => ta σ H fun vs H1 => ∃ a xs, vs = [.ref a] ∧ SqT K H1 a xs ∧ R (IteT K a) H1
theorem pi_enumT {X : Cx} {e : Expr} {ta : TA} {p pos tpos : Pos} {elts : List Expr} {kk : Nat} (hg : Gl X "enumerate") (hm : X.mg "enumerate" = none) (ha : PA X [e] ta) (hs : starEach [e] X.env = [(false, eval e X.env)]) :
    PI X (.Tuple elts kk tpos) (.Call (.Name "enumerate" p) [e] [] pos) (iEnumT X.K ta) := ⟨fun pins s σ H R I h => by
  refine Call_ (ld_blt I hg hm boot_enumerate (PyProof.Rows.callWith_type1 (thn (ha.run pos pins s σ H _ I h) fun us s1 ⟨vs, H1, I1, r1, q1⟩ => ?_) hs rfl))
  obtain ⟨a, xs, rfl, hq, q⟩ := q1
  obtain ⟨u, rfl, ru⟩ := r1.one
  cases ru
  obtain ⟨its, rv, p', hz⟩ := I1.tuple hq
  refine enum_call (begins_tuple a its.toArray) p' fun h2 he hit hk => wpAny_pyIter_enum he ?_
  have I2 : Inv X pins σ H1 { s1 with heap := h2 } := I1.kept (t' := s1.toks) hk
  refine ⟨s1.heap.objs.size + 1, [s1.heap.objs.size + 1, s1.heap.objs.size], _, _, H1, rfl, I2, turn_enumT a (s1.heap.objs.size + 1) s1.heap.objs.size, ⟨⟨.none, he⟩, ⟨_, hit, rfl, rfl⟩, Nat.succ_ne_self _⟩, fun b hb => ?_, q⟩
  have hle : s1.heap.objs.size ≤ b := by
    rcases List.mem_cons.mp hb with y | y
    · rw [y]; exact Nat.le_add_right _ _
    · rw [List.mem_singleton.mp y]; exact Nat.le_refl _
  exact I1.fpOk hle (I1.hok.fresh hle)⟩
theorem walk_enumT {K : PySem.W.Frag} {a : Addr} {xs : List V} : Walk (IteT K a) xs.length (fun H => SqT K H a xs) (YPair (fun i => some (.int (i : Nat))) (fun i => xs[i]?)) where
  goes := fun i _ hi q => ⟨xs, xs[i], q, by simp [hi]⟩
  stops := fun _ q => ⟨xs, q, Nat.le_refl _⟩
  yields := fun i H v H' _ q y => by
    obtain ⟨T, x, h1, h2, h3, h4⟩ := y
    exact ⟨T, .int (i : Nat), x, h1, h2, h3, rfl, h4 xs q⟩
section
variable {X : Cx} {pin : List (Option V)} {K : PySem.W.Frag} {pos : Pos}
/-- what is counted: a list or a tuple -/
def fItEQ (f : Fa) : Fi := fun ρ => match f ρ with
  | some ([.st (.lst ds)], ρ') => some (enumD ds, ρ')
  | some ([.st (.tup ds)], ρ') => some (enumD ds, ρ')
  | some ([.st (.kt ds)], ρ') => some (enumD ds, ρ')
  | _ => none
def iEnumQ (K : PySem.W.Frag) (t : TA) : TI := fun σ H R => iEnum K t σ H R ∨ iEnumT K t σ H R
theorem enum_item {K : PySem.W.Frag} {S' : Hp} {xs : List V} {ds0 : List D} (c : RpI K S' (xs.zip ds0)) {i : Nat} {d : D} {H2 : Hp} {y : V} {H3 S2 : Hp} {L : List It} (hd : (enumD ds0)[i]? = some d) (e2 : Ex S' S2) (o2 : Own K S2 H2 [] L)
    (hy : YPair (fun i => some (.int (i : Nat))) (fun i => xs[i]?) i H2 y H3) : ∃ S3, Ex S2 S3 ∧ Own K S3 H3 [] ((y, .st d) :: L) := by
  obtain ⟨T2, x1, x2, rfl, hT, rfl, h1, h2⟩ := hy
  cases h1
  have hd' : ∃ d0, ds0[i]? = some d0 ∧ d = .tup [.int (i : Nat), d0] := by
    simp only [enumD, List.getElem?_map, List.getElem?_zipIdx] at hd
    cases q0 : ds0[i]? with
    | none => rw [q0] at hd; cases hd
    | some d0 => rw [q0] at hd; exact ⟨d0, rfl, by simpa using hd.symm⟩
  obtain ⟨d0, hd0, rfl⟩ := hd'
  obtain ⟨e5, o5⟩ := Own.newT (vs := [.int (i : Nat), x2]) (ds := [.int (i : Nat), d0]) o2 (.int (RpI.cons ((rp_at c h2 hd0).mono e2) .nil)) rfl hT
  exact ⟨_, e5, o5⟩
theorem ri_enumQ {t : TA} {f : Fa} (h : RA K pin t f) : RI K pin (iEnumQ K t) (fItEQ f) := by
  intro S H T ρ σ F R ds ρ' w e k
  unfold fItEQ at e
  split at e
  · rename_i ds0 ρ1 q
    cases e
    refine .inl (h S H T ρ σ F _ _ _ w q fun vs S' H' x hl w' => ?_)
    match vs, hl with
    | [v], hl1 =>
      cases (show Rp K S' v (.lst ds0) from w'.known) with
      | lst a b c q9 =>
        rename_i ad xs
        have hn : (enumD ds0).length = xs.length := by simp [enumD, b]
        exact ⟨ad, xs, rfl, SqL.of (w'.le _ _ a), k (Ite K ad) _ _ S' H' x w'.tl (by rw [hn]; exact walk_enum) (fun H2 e2 => SqL.of (e2 _ _ a)) fun i d H2 y H3 S2 L hd e2 o2 hy => enum_item c hd e2 o2 hy⟩
  · rename_i ds0 ρ1 q
    cases e
    refine .inr (h S H T ρ σ F _ _ _ w q fun vs S' H' x hl w' => ?_)
    match vs, hl with
    | [v], hl1 =>
      cases (show Rp K S' v (.tup ds0) from w'.known) with
      | tup a b c q9 =>
        rename_i ad xs
        have hn : (enumD ds0).length = xs.length := by simp [enumD, b]
        exact ⟨ad, xs, rfl, SqT.of (w'.le _ _ a), k (IteT K ad) _ _ S' H' x w'.tl (by rw [hn]; exact walk_enumT) (fun H2 e2 => SqT.of (e2 _ _ a)) fun i d H2 y H3 S2 L hd e2 o2 hy => enum_item c hd e2 o2 hy⟩
  · rename_i ds0 ρ1 q
    cases e
    refine .inr (h S H T ρ σ F _ _ _ w q fun vs S' H' x hl w' => ?_)
    match vs, hl with
    | [v], hl1 =>
      cases (show Rp K S' v (.kt ds0) from w'.known) with
      | kt a b c q9 =>
        rename_i ad xs
        have hn : (enumD ds0).length = xs.length := by simp [enumD, b]
        exact ⟨ad, xs, rfl, ex_t w'.le a, k (IteT K ad) _ _ S' H' x w'.tl (by rw [hn]; exact walk_enumT) (fun H2 e2 => ex_t e2 a) fun i d H2 y H3 S2 L hd e2 o2 hy => enum_item c hd e2 o2 hy⟩
  · cases e
theorem si_enumQ {elts : List Expr} {kk : Nat} {tpos p : Pos} {e : Expr} {t : TA} {f : Fa} (hm : X.mg "enumerate" = none) (h : SA X pin [e] t f) (hg : Gl X "enumerate" := by rfl) (hs : starEach [e] X.env = [(false, eval e X.env)] := by rfl) (hK : X.K = K := by rfl) : SI X pin (.Tuple elts kk tpos) (.Call (.Name "enumerate" p) [e] [] pos) (iEnumQ K t) (fItEQ f) := by subst hK; exact ⟨PI.or (pi_enum hg hm h.pe hs) (pi_enumT hg hm h.pe hs), ri_enumQ h.rd⟩
end
end Qy
set_option Elab.async false
set_option linter.all false
set_option maxRecDepth 100000
set_option maxHeartbeats 400000
/-! tuple(range(n)); C() with defaults; == of one's own. -/
namespace Qy
open PySem PySem.Spec PyProof.Rows L2 ClX
section
variable {X : Cx} {pin : List (Option V)} {K : PySem.W.Frag} {S S' H : Hp} {e a b c : Expr} {es : List Expr} {t ta tb tc tj : TE} {tA : TA} {fA : Fa} {f fj : Fe} {oa ob : Fo} {pos p apos : Pos} {L T F : List It} {ρ ρ2 : Rho} {σ : L2.St} {cn m : Str} {mi : Mir} {k : Nat} {ps : List Str} {bk : List (Option Nat)}
def fTRg (f : Fe) : Fe := fun ρ => match f ρ with
  | some (.st (.int j), ρ1) => if 0 ≤ j ∧ j ≤ 1000000 then some (.st (.tup (rngD 0 j.toNat)), ρ1) else none
  | _ => none
theorem se_tupRg {p1 p2 : Pos} (hm : X.mg "tuple" = none) (hm2 : X.mg "range" = none) (hc : X.calm = true) (h : SE X pin a ta f) (hg : Gl X "tuple" := by rfl) (hg2 : Gl X "range" := by rfl) (na : starEach [a] X.env = (false, eval a X.env) :: starEach [] X.env := by rfl)
    (na2 : starEach [.Call (.Name "range" p1) [a] [] p2] X.env = (false, eval (.Call (.Name "range" p1) [a] [] p2) X.env) :: starEach [] X.env := by rfl) : SE X pin (.Call (.Name "tuple" p) [.Call (.Name "range" p1) [a] [] p2] [] pos) (tTupRg (tRg1 ta)) (fTRg f) := by
  refine ⟨pe_tupRg hc hg hm (prg_1 hg2 hm2 h.pe na) na2, ?_⟩
  intro S H T ρ σ F Q od ρ' w q k
  unfold fTRg at q
  split at q
  · rename_i j ρ1 q1
    split at q
    · rename_i hj
      cases q
      refine h.rd S H T ρ σ F _ _ _ w q1 fun v S1 H1 e1 w1 => ?_
      cases w1.known
      refine ⟨j, rfl, ⟨by omega, by omega, by omega, by omega, by omega⟩, fun q hq => ?_⟩
      have er : rgV 0 j = ((List.range j.toNat).map fun (i : Nat) => (0 + (i : Int))).map V.int := by
        unfold rgV
        rw [Int.sub_zero, List.map_map]
        rfl
      have ed : rngD 0 j.toNat = ((List.range j.toNat).map fun (i : Nat) => (0 + (i : Int))).map D.int := by
        unfold rngD
        rw [List.map_map]
        rfl
      have w2 := w1.tl
      rw [ed] at k
      rw [er]
      obtain ⟨e3, o3⟩ := Own.newT w2.own (rpi_ints ((List.range j.toNat).map fun (i : Nat) => (0 + (i : Int)))) (by simp) hq
      exact k _ _ _ (ex_trans e1 e3) (w2.with o3)
    · cases q
  · cases q
/-! ### C(), its parameters by their defaults -/
structure CalD (P : Program) (w : World) (K : PySem.W.Frag) (mg : Str → Option Value) (base : Heap) (cn m : Str) (k : Nat) (ps : List Str) (mi : Mir) (dd : List D) : Prop where
  ex : ∃ f fd ds dvs, PySem.W.findIn K (.ref (He.ga K cn)) m = some (some (.ref f)) ∧ PySem.W.isFn K (.ref f) = true ∧ Binds K fd ps ds ∧ Vals dvs ds ∧ dvs.length = dd.length ∧ (∀ S, RpI K S (dvs.zip dd)) ∧ FnG P w K mg base CX0 k f fd ps (spM K ps.length mi)
def tMk0 (K : PySem.W.Frag) (cn : Str) (n : Nat) (mi : Mir) (dd : List D) : TE := fun σ H Q => ∀ dvs : List V, dvs.length = dd.length → (∀ S, RpI K S (dvs.zip dd)) → tMake (He.ga K cn) (spM K n mi) dvs E0 tNil σ H Q
def fMk0 (cn : Str) (mi : Mir) (dd : List D) : Fe := fun ρ => match mi (.oi cn [] :: dd.map .st) with
  | some (.st .non, some (.oi c fs) :: outs) => if outs.length = dd.length then some (.st (.ins c (valF fs)), ρ) else none
  | _ => none
theorem zip_stM : ∀ (vs : List V) (ds : List D), vs.zip (ds.map OD.st) = (vs.zip ds).map fun p => (p.1, OD.st p.2)
  | [], _ => rfl
  | _ :: _, [] => rfl
  | v :: vs, d :: ds => by simp [zip_stM vs ds]
theorem Own.pushAll {l : List It} : ∀ {r : List (V × D)}, RpI K S r → Own K S H [] l → Own K S H [] (r.map (fun p => (p.1, OD.st p.2)) ++ l)
  | [], _, h => h
  | p :: r, q, h => (Own.pushAll q.tail h).push q.head
theorem re_mk0 {n : Nat} {dd : List D} (hn : dd.length + 1 = n) : RE K pin (tMk0 K cn n mi dd) (fMk0 cn mi dd) := by
  intro S H T ρ σ F Q od ρ' w q k
  unfold fMk0 at q
  split at q
  · rename_i c fs outs q2
    split at q
    · rename_i hl
      cases q
      intro dvs hd hr
      show ∀ x dx, H x = none → H dx = none → dx ≠ x → _
      intro x dx n1 n2 ne
      have o1 : Own K S H [] ((dvs.zip dd).map (fun p => (p.1, OD.st p.2)) ++ (T ++ (its ρ σ ++ F))) := Own.pushAll (hr S) w.own
      rw [← zip_stM] at o1
      refine ⟨S, T ++ (its ρ σ ++ F), .oi cn [] :: dd.map .st, .st .non, some (.oi c fs) :: outs, by simp; omega, by simp; omega, by simp; omega, ?_, q2, fun v S2 H2 e2 o2 => ?_⟩
      · have := o1.newI (cn := cn) n1 n2 ne
        simpa using this
      · have hv : v = .non := by cases o2.known; rfl
        refine ⟨hv, ?_⟩
        have o3 : Own K S2 H2 [] ((.ref x, .oi c fs) :: (its outs (dvs.map some) ++ (T ++ (its ρ σ ++ F)))) := by
          have := o2.tl
          simpa [its] using this
        obtain ⟨S3, e3, o4⟩ := o3.freeze1
        refine k _ S3 H2 (ex_trans e2 e3) (w.with (Own.sub o4 ⟨its outs (dvs.map some), ?_⟩))
        simp only [OD.val]
        exact List.perm_middle.symm
    · cases q
  · cases q
theorem se_mk0 {dd : List D} (M : MkE X.K X.mg cn) (c : CalD X.prog X.w X.K X.mg X.base cn "__init__" k ps mi dd) (gd : X.A.guards = some []) (hr : Room (k + 1) X.A) (hn : dd.length + 1 = ps.length)
    (hg : Gl X cn := by rfl) (hdb : (cn == ("__debug__" : Str)) = false := by decide) (hK : X.K = K := by rfl) : SE X pin (.Call (.Name cn p) [] [] pos) (tMk0 K cn ps.length mi dd) (fMk0 cn mi dd) := by
  subst hK
  refine ⟨⟨fun pins s σ H Q I h => wpAny_Call_Name_kw (ld_glob I hg M.mg ?_ hdb)⟩, re_mk0 hn⟩
  obtain ⟨fa, fd, ds, dvs, h1, h2, hb, hv, hl, hrp, F⟩ := c.ex
  have q := h dvs hl hrp
  refine PySem.W.callWith_K0 I.kIn M.kp ?_
  have n1 := I.hok.fresh (Nat.le_refl s.heap.objs.size)
  have n2 := I.hok.fresh (Nat.le_succ s.heap.objs.size)
  have q2 := q (s.heap.objs.size + 1) s.heap.objs.size n2 n1 (Nat.ne_of_lt (Nat.lt_succ_self _))
  rw [List.nil_append] at q2
  have J := Inv.made (C := He.ga X.K cn) I
  have r2 : Vals (V.ref (s.heap.objs.size + 1) :: dvs) (Value.ref (s.heap.objs.size + 1) :: ds) := .cons rfl hv
  have hl2 : (Value.ref (s.heap.objs.size + 1) :: ds).length = ps.length := by rw [← r2.length]; exact F.len _ _ _ _ q2
  have hb1 := hb _ [Value.ref (s.heap.objs.size + 1)] J.kIn (by simpa using hl2)
  refine wpAny_call (make_map (f := fa) I.kIn M.makes h1 (beq_iff_eq.mp h2) (codeAny_mono (F.run _ X.stack _ _ _ _ _ _ E0 (show (X.A.under _).guards = some [] from gd) (hr.make (He.ga X.K cn) [] []) (J.env0.make (He.ga X.K cn) [] []) hb1 r2 q2) fun rr z hz => ?_))
  cases rr with
  | error er => exact (show False from hz).elim
  | ok fl =>
    cases fl with
    | ret u =>
      obtain ⟨v, H', I3, rv, evv, q3⟩ := J.after hz
      subst evv
      exact ⟨rv, V.ref (s.heap.objs.size + 1), H', I3, rfl, q3⟩
    | next => exact hz.elim
    | brk => exact hz.elim
    | cont => exact hz.elim
/-! ### == of one's own -/
def rOwnEq (K : PySem.W.Frag) (cn : Str) (sp : Sp) : R2 := fun x y H Q => ∃ a dx fs b dy gs, x = .ref a ∧ y = .ref b ∧ H a = some (.ins (He.ga K cn) dx fs) ∧ H b = some (.ins (He.ga K cn) dy gs) ∧ sp [x, y] H (fun v H' => (∃ d, v = .bl d) ∧ Q v H') E0
theorem op_ownEq (c : CalM X.prog X.w X.K X.mg X.base cn "__eq__" k ps mi) (gd : X.A.guards = some []) (hr : Room k X.A) : OpR X (compareOp .Eq) (rOwnEq X.K cn (spM X.K ps.length mi)) := by
  intro pins s σ H x y v u Q I rx ry h
  obtain ⟨ad, dx, fs, bd, dy, gs, rfl, rfl, ha, hb2, q⟩ := h
  cases rx
  cases ry
  obtain ⟨f, fd, h1, h2, h3, h4, h5⟩ := c.ex
  obtain ⟨m, hF⟩ := I.fr
  obtain ⟨mA, O1, _⟩ := ins_get I.hok ha
  obtain ⟨od, J, _⟩ := O1.look
  obtain ⟨mB, O2, _⟩ := ins_get I.hok hb2
  obtain ⟨od2, J2, _⟩ := O2.look
  have hl : ([Value.ref ad, Value.ref bd] : List Value).length = ps.length := by
    have := h5.len _ _ _ _ q
    simpa using this
  have hb := h4 s [Value.ref ad, Value.ref bd] I.kIn (by simpa using hl)
  rw [List.append_nil] at hb
  have z := wp_g (run_g (vs := [.ref ad, .ref bd]) h5 gd hr pass0 I hb (.cons rfl (.cons rfl .nil)) q)
  show wpAny _ _ (richCompare .Eq _ _) _ _ _
  refine PySem.W.cmp_K (op := .Eq) (tb := .ref (He.ga X.K cn)) hr.units0 hF I.ok.mod.kin J J2.type (by simp [PySem.W.notFirst]) h1 h2 (wpAny_mono z (fun r z' hz => ?_) fun _ _ y => y)
  obtain ⟨v, H', I', rv, ⟨d, hv⟩, q'⟩ := hz
  subst hv
  cases rv
  exact ⟨.bl d, H', I', rfl, q'⟩
def gOwnEq (cn : Str) (m : Mir) : OD → OD → Option OD
  | .st (.ins c fs), .st (.ins c' gs) => if c = cn ∧ c' = cn then (match m [.st (.ins c fs), .st (.ins c' gs)] with
    | some (.st (.bl d), outs) => if outs.length = 2 then some (.st (.bl d)) else none
    | _ => none) else none
  | _, _ => none
theorem rg_ownEq : RG2 K (rOwnEq K cn (spM K 2 mi)) (gOwnEq cn mi) := by
  intro S H L x y ox oy oz Q w e k
  unfold gOwnEq at e
  split at e
  · rename_i c fs c' gs
    split at e
    · rename_i hc
      obtain ⟨rfl, rfl⟩ := hc
      split at e
      · rename_i d outs hm
        split at e
        · rename_i hl
          cases e
          have r1 := w.at1.st
          have r2 := w.at0.st
          cases r1 with
          | @ins ad _ dx vs _ _ a1 a2 a3 _ =>
            cases r2 with
            | @ins bd _ dy us _ _ b1 b2 b3 _ =>
              refine ⟨ad, dx, vs, bd, dy, us, rfl, rfl, w.le _ _ a1, w.le _ _ b1, S, L, [.st (.ins c' fs), .st (.ins c' gs)], .st (.bl d), outs, rfl, rfl, hl, w.perm (.swap _ _ _), hm, fun v S' H' e' o' => ?_⟩
              have hv : v = .bl d := by cases o'.known; rfl
              refine ⟨⟨d, hv⟩, k v S' H' e' ?_⟩
              have o2 : Own K S' H' [] ((v, .st (.bl d)) :: L) := Own.sub o' ⟨its outs (([.ref ad, .ref bd] : List V).map some), List.perm_middle.symm⟩
              have r1' : Rp K S' (.ref ad) (.ins c' fs) := RpI.mono e' (.ins a1 a2 a3 .nil)
              have r2' : Rp K S' (.ref bd) (.ins c' gs) := RpI.mono e' (.ins b1 b2 b3 .nil)
              exact ((o2.push r1').push r2').perm ((List.Perm.cons _ (.swap _ _ _)).trans (.swap _ _ _))
        · cases e
      · cases e
    · cases e
  · cases e
end
end Qy
set_option Elab.async false
set_option linter.all false
set_option maxRecDepth 100000
set_option maxHeartbeats 400000
/-! The law's end, for promises that ask that no repr is under way. -/
namespace Qy
open PySem PySem.Spec PyProof.Rows L2
section
variable {P : Program} {w : World} {K : PySem.W.Frag} {mg mb : Str → Option Value} {k : Nat} {fa a : Addr} {fd : FuncData} {x : Str} {sp : Sp} {s : Shared} {vs : List Value} {ns : List Int}
/-- the run from a heap H that tracks at most the script at a, known by its object -/
theorem end_from {H : Hp} {o : Obj} (hH : ∀ b, H b = none ∨ (b = a ∧ H b = some (.frz o (.lst (ns.map V.int))))) (KX : K.In s.heap) (hK : H a ≠ none → K.lookup a = none)
    (G : s.heap.Ns mainGlobals mg) (B : s.heap.Ns builtinsNs mb) (hbb : ∀ x : Str, x ≠ "__name__" → mb x = bootBuiltins x) (NL : s.heap.NoLimit) (hg : s.gens = #[])
    (ha : s.heap.get? a = some { cls := .type "list", data := .seq vs.toArray }) (hok : HOk P w H s.heap) (hr : Room k callerA)
    (F : ∀ base : Heap, K.In base → base.Ns mainGlobals mg → FnG P w K mg base CX0 k fa fd [x] sp) (hbind : ∀ (s : Shared) (u : Value), BindsTo s fd ⟨[u], []⟩ [(x, u)])
    (hsp : sp [.ref a] H (fun v _ => v = .bl true) E0) :
    codeAny (model P w) callerA (.call (.ref fa) ⟨[.ref a], []⟩) (fun r s' => r = .ok (.ret (.bool true)) ∧ OldK s.heap s'.heap ∧ s'.os = s.os ∧ AllBare s'.gens) s := by
  have only : ∀ b, H b ≠ none → b = a := fun b n => (hH b).elim (fun z => absurd z n) fun z => z.1
  have keep1 : ∀ {b : Addr} {u : Obj}, s.heap.get? b = some u → b ≠ a → (hidT s.heap H).get? b = some u := fun {b u} e n => hidT_get e ((hH b).elim id fun z => absurd z.1 n)
  have nsk : ∀ {b : Addr} {m : Str → Option Value}, s.heap.Ns b m → (hidT s.heap H).Ns b m := by
    rintro b m ⟨u, es, ep, e, d, r⟩
    refine ⟨u, es, ep, keep1 e ?_, d, r⟩
    rintro rfl
    rw [ha] at e
    injection e with e
    rw [← e] at d
    injection d
  have kk : K.In (hidT s.heap H) := fun b u e => hidT_get (KX b u e) (by
    rcases hH b with z | ⟨rfl, z⟩
    · exact z
    · have := hK (by rw [z]; simp)
      rw [this] at e
      cases e)
  have mo : Mod K mg (hidT s.heap H) := by
    obtain ⟨mc, h1, h2⟩ := NL
    exact ⟨kk, nsk G, ⟨mb, nsk B, hbb⟩, mc, nsk h1, h2⟩
  have e0 : Env0 P w K mg (hidT s.heap H) callerA [] s H := by
    refine ⟨rfl, mo, fun _ _ e => of_hidT e, ?_, trivial, fun b hb => ?_, hok, .of_eq hg⟩
    · rw [hidT_size]; exact Nat.le_refl _
    · cases (show b ∈ ([] : List Addr) from hb)
  have run := (F _ kk (nsk G)).run callerA [] s H ⟨[.ref a], []⟩ [.ref a] [.ref a] _ _ rfl hr e0 (hbind s (.ref a)) (.cons rfl .nil) hsp
  refine codeAny_mono run fun r s' q => ?_
  match r, q with
  | .ok (.ret u), ⟨v, H', q1, q2, q3, q4, q5, q6⟩ =>
    cases (show v = .bl true from q6)
    cases (show u = Value.bool true from q5)
    refine ⟨rfl, OldK.of_keep fun b u e => ?_, q1, q2⟩
    rcases hH b with z | ⟨rfl, z⟩
    · exact q3.keep b u e z (fun y => by cases (show b ∈ ([] : List Addr) from y)) (by simp)
    · obtain ⟨e1, _⟩ := hok b _ z
      obtain ⟨e2, _⟩ := q4 b _ (q3.frzs b o _ z)
      exact e2.trans (e1.symm.trans e)
/-- a law by its mirror: m answers True of every script -/
theorem walk_ofG {l : PySem.W.OpenLaw} {n k : Nat} {q : Program} {loose : List Str} {XP : (Str → Option Value) → Heap → Prop} {YP : World → Heap → Prop} {d : DefRec} {x : Str} {m : Mir}
    (hn : l.most = some n) (hn2 : n ≤ sizeLine) (hdf : d.params.defaults = []) (hr : Room k callerA)
    (F : ∀ (w : World) (mg : Str → Option Value) (fa : Addr) (h : Heap), YP w h → h.Ns mainGlobals mg → mg d.name = some (.ref fa) →
      ∃ (K : PySem.W.Frag) (fd : FuncData), K.In h ∧ (∀ (s : Shared) (u : Value), BindsTo s fd ⟨[u], []⟩ [(x, u)]) ∧ ∀ base : Heap, K.In base → base.Ns mainGlobals mg → FnG l.prog w K mg base CX0 k fa fd [x] (spM K 1 m))
    (hm : ∀ ns : List Int, ns.length ≤ n → ∃ outs, m [.st (.scr ns)] = some (.st (.bl true), outs) ∧ outs.length = 1) :
    PySem.W.WalkO q loose XP YP l.row.toRowW d [] (fun f vs => PySem.call f vs) := by
  refine Att.attach_call hn hdf fun w s₀ s₁ mg mb fa o pm cd doc a vs ns G Y ho hd hcd hmg hobj hints hlen hg => ?_
  obtain ⟨K, fd, KX, hb, hF⟩ := F w mg fa _ Y G.T.g hmg
  obtain ⟨outs, hm1, hm2⟩ := hm ns hlen
  have rv := L2.vals_ints hints
  have lenV := hints.length
  have hsz : (ns.map V.int).length ≤ sizeLine := by rw [List.length_map]; exact Nat.le_trans hlen hn2
  have spOf : ∀ H : Hp, SqL K H a (ns.map V.int) → spM K 1 m [.ref a] H (fun v _ => v = .bl true) E0 := fun H hS => by
    refine ⟨H, [], [.st (.scr ns)], .st (.bl true), outs, rfl, rfl, hm2, ⟨ex_refl H, [], .st (.scr hS .nil) .nil, .nil, (fun _ z => nomatch z), fun _ z => nomatch z⟩, hm1, fun v S' H' _ ow => ?_⟩
    cases ow.known
    rfl
  cases hk : K.lookup a with
  | some u =>
    have e := KX a u hk
    rw [hobj] at e
    cases e
    refine end_from (ns := ns) (o := { cls := .type "list", data := .seq vs.toArray }) (H := fun _ => none) (fun _ => .inl rfl) KX (fun z => absurd rfl z) G.T.g G.T.b G.T.builtins G.T.nolimit hg hobj (fun b u z => by cases z) hr hF hb (spOf _ (.inr ⟨_, vs.toArray, _, hk, rfl, rfl, rfl, ?_, by simpa using rv⟩))
    rw [List.size_toArray, lenV]
    simpa using hsz
  | none =>
    have he : ∀ b : Addr, (if b = a then some (HO.frz { cls := .type "list", data := .seq vs.toArray } (.lst (ns.map V.int))) else none) = none ∨ (b = a ∧ (if b = a then some (HO.frz { cls := .type "list", data := .seq vs.toArray } (.lst (ns.map V.int))) else none) = some (.frz { cls := .type "list", data := .seq vs.toArray } (.lst (ns.map V.int)))) := fun b => by
      by_cases z : b = a
      · exact .inr ⟨z, if_pos z⟩
      · exact .inl (if_neg z)
    refine end_from (ns := ns) (o := { cls := .type "list", data := .seq vs.toArray }) (H := fun b => if b = a then some (HO.frz { cls := .type "list", data := .seq vs.toArray } (.lst (ns.map V.int))) else none) he KX (fun _ => hk) G.T.g G.T.b G.T.builtins G.T.nolimit hg hobj (fun b u z => ?_) hr hF hb (spOf _ (.inl (.inr ⟨_, if_pos rfl⟩)))
    rcases he b with y | ⟨rfl, y⟩
    · have y' := y.symm.trans z
      cases y'
    · have y' := y.symm.trans z
      cases y'
      exact ⟨hobj, hsz, vs, _, rv, hobj⟩
end
end Qy
namespace Qy
open PySem PySem.Spec PyProof.Rows L2
/-- a class's constant, an int -/
def cvB (K : PySem.W.Frag) (C : Addr) (f : Str) (i : Int) : Bool := match PySem.W.findCls K (.ref C) (.type "type") f with
  | some (.val (.int j _)) => decide (j = i)
  | _ => false
theorem cvB_ok {K : PySem.W.Frag} {C : Addr} {f : Str} {i : Int} (h : cvB K C f i = true) : ∃ u, ClX.CVal K C (.type "type") f (.int i) u := by
  unfold cvB at h
  split at h
  · rename_i j t q
    have e : j = i := of_decide_eq_true h
    subst e
    exact ⟨_, q, t, rfl⟩
  · cases h
def opB (K : PySem.W.Frag) (cn : Str) (op : Operator) : Bool := PySem.W.selfFirst K (He.ga K cn) && (He.eqO (PySem.W.findIn K (.ref (He.ga K cn)) (PySem.dunderR op.info.2)) (some none) &&
  ((PySem.W.findIn K (.type "str") (PySem.dunder op.info.2)).isSome && ((PySem.W.findIn K (.type "str") (PySem.dunderR op.info.2)).isSome && decide (PySem.W.subIn K (.type "str") (.ref (He.ga K cn)) = some false))))
theorem opB_ok {K : PySem.W.Frag} {cn : Str} {op : Operator} (h : opB K cn op = true) : OpE K cn op := by
  obtain ⟨h1, h⟩ := He.ba h
  obtain ⟨h2, h⟩ := He.ba h
  obtain ⟨h3, h⟩ := He.ba h
  obtain ⟨h4, h5⟩ := He.ba h
  exact ⟨h1, He.eqO_ok h2, Option.isSome_iff_exists.mp h3, Option.isSome_iff_exists.mp h4, of_decide_eq_true h5⟩
/-- one def has one function object -/
theorem funD_fd {K : PySem.W.Frag} {x q : Str} {pa : Arguments} {bo : List Stmt} {sc : Scope} {dv dv' : List V} {kw kw' : List (Str × V)} {f : Addr} {fd fd' : FuncData} (h : FunD K x q pa bo sc dv kw f fd) (h' : FunD K x q pa bo sc dv' kw' f fd') : fd = fd' := by
  obtain ⟨_, _, _, _, _, _, _, _, _, _, _, l1, _⟩ := h.ex
  obtain ⟨_, _, _, _, _, _, _, _, _, _, _, l2, _⟩ := h'.ex
  rw [l1] at l2
  injection l2 with l2
  injection l2 with _ _ l2
  injection l2
end Qy
namespace Qy
open PySem PySem.Spec PyProof.Rows L2
/-! ### a Hook: facts by names, and Bools of one's own; the interpreter's statics are in -/
def frQ (g : Addr → Option Obj) (n : Nat) : PySem.W.Frag := He.frG g (He.asD g n ++ [cStatics])
abbrev AlQ : Type := He.AlD × Bool
def obsQ (n : Nat) (fa : List He.Fa) (fn : List He.DefD) (ex : PySem.W.Frag → Bool) (g : Addr → Option Obj) : AlQ := (He.obsD fa fn (frQ g n), ex (frQ g n))
def hookQ (n : Nat) (fa : List He.Fa) (fn : List He.DefD) (ex : PySem.W.Frag → Bool) : PySem.W.Hook where
  α := AlQ
  obs := fun s => obsQ n fa fn ex s.heap.get?
  val := fun _ => (He.valD fn, true)
  says := fun _ h => ∃ K : PySem.W.Frag, K.In h ∧ He.SaysD fa fn K ∧ ex K = true
  of := fun _ _ e => ⟨_, He.frG_in, congrArg (fun z : AlQ => z.1) e, congrArg (fun z : AlQ => z.2) e⟩
  keeps := fun _ _ _ ⟨K, hK, c⟩ k => ⟨K, PySem.W.Frag.In.keeps hK k, c⟩
theorem obsQ_eq {n : Nat} {fa : List He.Fa} {fn : List He.DefD} {ex : PySem.W.Frag → Bool} {g : Addr → Option Obj} {s : Shared} (h : ∀ a, g a = s.heap.get? a) : obsQ n fa fn ex g = (hookQ n fa fn ex).obs s := by
  rw [show g = s.heap.get? from funext h]
  rfl
end Qy
set_option Elab.async false
set_option linter.all false
set_option maxRecDepth 100000
set_option maxHeartbeats 400000
/-! isinstance(x, C) of a class of one's own. -/
namespace Qy
open PySem PySem.Spec PyProof.Rows L2 ClX C8
def insB (K : PySem.W.Frag) (cn : Str) : Bool := He.eqO (PySem.W.findIn K (.ref (He.ga K cn)) "__class__") (some (some (.builtin "object.__class__"))) && (He.eqO (PySem.W.specialIn K (.builtin "object.__class__") "__get__") (some (some (.builtin "getset_descriptor.__get__"))) &&
  (decide (PySem.W.takesIn K (.builtin "object.__class__") = some true) && decide (PySem.W.mroIn K (He.ga K cn) (.type "object") = some true)))
theorem insB_ok {K : PySem.W.Frag} {cn : Str} (c : Cls K (He.ga K cn)) (h : insB K cn = true) : InsC K (He.ga K cn) := by
  unfold insB at h
  simp only [Bool.and_eq_true, decide_eq_true_eq] at h
  obtain ⟨h1, h2, h3, h4⟩ := h
  exact ⟨c, He.eqO_ok h1, He.eqO_ok h2, h3, h4, by simp [PySem.W.kitOne]⟩
section
variable {X : Cx} {pin : List (Option V)} {K : PySem.W.Frag} {a : Expr} {ta : TE} {oa : Fo} {pos p p1 : Pos} {cn : Str}
def gIsiC (cn : Str) : OD → Option OD
  | .st (.ins c _) => if c = cn then some (.st (.bl true)) else none
  | _ => none
def rIsiC (C : Addr) : List V → Hp → VK → Prop := fun xs H Q => ∃ a dx fs, xs = [.ref a, .ref C] ∧ H a = some (.ins C dx fs) ∧ Q (.bl true) H
theorem rg_isiC : RG1 K (fun x H Q => rIsiC (He.ga K cn) [x, .ref (He.ga K cn)] H Q) (gIsiC cn) := by
  intro S H L x ox oz Q w e k
  unfold gIsiC at e
  split at e
  · rename_i c fs
    split at e
    · rename_i hc
      subst hc
      cases e
      cases w.at0.st with
      | ins h1 h2 h3 _ => exact ⟨_, _, _, rfl, w.le _ _ h1, k _ S H (ex_refl S) (w.push (.bl .nil))⟩
    · cases e
  · cases e
theorem se_isiC (I : InsC X.K (He.ga X.K cn)) (hm : X.mg "isinstance" = none) (hv : bootBuiltins "isinstance" = some (.builtin "isinstance")) (hc : X.mg cn = some (.ref (He.ga X.K cn))) (ha : SO X pin a ta oa) (hg : Gl X "isinstance" := by rfl) (hg2 : Gl X cn := by rfl) (hdb : (cn == ("__debug__" : Str)) = false := by decide)
    (hs : starEach [a, .Name cn p1] X.env = (false, eval a X.env) :: starEach [.Name cn p1] X.env := by rfl) (hs2 : starEach [.Name cn p1] X.env = (false, eval (.Name cn p1) X.env) :: starEach [] X.env := by rfl) (hpl : (backTo pos (starEach [.Name cn p1] X.env)).any (·.1) = false := by rfl) (hK : X.K = K := by rfl) :
    SE X pin (.Call (.Name "isinstance" p) [a, .Name cn p1] [] pos) (tCB (rIsiC (He.ga K cn)) (tCons ta (tCons (tC (.ref (He.ga K cn))) tNil))) (fUn (gIsiC cn) oa) := by
  subst hK
  exact ⟨pe_callB (call_isC I) hg hm hv (pa_cons ha.pe (pa_cons (pe_glob hg2 hc rfl hdb) pa_nil hs2) hs) (by decide) (by decide) hs hpl, re_un (r := fun x H Q => rIsiC (He.ga X.K cn) [x, .ref (He.ga X.K cn)] H Q) ha.rd rg_isiC⟩
end
/-- an empty tuple that the top keeps -/
def kt0B (K : PySem.W.Frag) (a : Addr) : Bool := match K.lookup a with
  | some ⟨.type "tuple", _, .seq its _, _⟩ => its.size == 0
  | _ => false
theorem kt0B_ok {K : PySem.W.Frag} {a : Addr} (h : kt0B K a = true) (S : Hp) : RpI K S [(V.ref a, D.kt [])] := by
  unfold kt0B at h
  split at h
  · rename_i dd its n sl hl
    refine RpI.kt (vs := []) (.inr ⟨_, its, n, hl, rfl, rfl, ?_, ?_⟩) rfl .nil .nil
    · have : its.size = 0 := by simpa using h
      rw [this]
      exact Nat.zero_le _
    · have : its.toList = [] := by
        have h0 : its.size = 0 := by simpa using h
        simpa using h0
      rw [this]
      exact .nil
  · cases h
/-- a tuple that the top keeps is a tuple -/
def tyNK : D → Option String
  | .kt _ => some "tuple"
  | d => tyN d
theorem At.tyK {K : PySem.W.Frag} {S H : Hp} {x : V} {o : OD} {d : D} {n : String} (h : At K S H x o) (le : Ex S H) (r : o.rd = some d) (hn : tyNK d = some n) : TyX K H x (.type n) := by
  cases d with
  | kt ds =>
    cases hn
    cases h.plain r (by simp) (by simp) (by simp) with
    | kt a b c _ =>
      rcases a with a | ⟨dd, its, m, hl, hc, _⟩
      · rcases a with a | ⟨dd, a⟩
        · exact .base (.tup (le _ _ a))
        · exact .fTuple (le _ _ a)
      · exact .kTuple hl hc
  | _ => exact h.ty le r hn
def gIsi2K : OD → OD → Option OD := fun a b => match a.rd.bind tyNK, b with
  | some n, .st (.tup [.raw (.ty T), .raw (.ty U)]) => (match kitB n T, kitB n U with
    | some r, some s => some (.st (.bl (r || s)))
    | _, _ => none)
  | _, _ => none
theorem rg_isi2K {K : PySem.W.Frag} : RG2 K (fun x y H Q => rIsiT K [x, y] H Q) gIsi2K := by
  intro S H L x y ox oy oz Q w e k
  unfold gIsi2K at e
  split at e
  · rename_i n T U hx
    split at e
    · rename_i r s h1 h2
      cases e
      obtain ⟨d, hd, hn⟩ := Option.bind_eq_some_iff.mp hx
      obtain ⟨ad, vs, rfl, ha, hl, hr⟩ := w.at0.tup w.le rfl
      match vs, hl with
      | [v1, v2], _ =>
        simp only [List.zip_cons_cons] at hr
        cases hr.head
        cases hr.tail.head
        refine ⟨x, ad, [.ty T, .ty U], .type n, [.type T, .type U], r || s, rfl, w.le _ _ ha, .cons (.ty T) (.cons (.ty U) .nil), w.at1.tyK w.le hd hn, ?_, k _ S H (ex_refl S) (w.push (.bl .nil))⟩
        refine kitAny_cons (kit_ty h1) (fun hf => ?_) fun ht => by rw [ht]; rfl
        refine kitAny_cons (kit_ty h2) (fun hf2 => ?_) fun ht => by rw [hf, ht]; rfl
        rw [hf, hf2]
        rfl
    · cases e
  · cases e
end Qy
set_option Elab.async false
set_option linter.all false
set_option maxRecDepth 100000
set_option maxHeartbeats 400000
/-! A comprehension over a list that stands in a slot and may change later: it is lent meanwhile. -/
namespace Qy
open PySem PySem.Spec PyProof.Rows L2
section
variable {X : Cx} {pin : List (Option V)} {K : PySem.W.Frag} {pos : Pos}
def fItV (i : Nat) : Fi := fun ρ => match ρ[i]? with
  | some (some (.ol us)) => (stAll us).map fun ds => (ds, ρ.set i none)
  | _ => none
theorem ril_var {i : Nat} : RIL K pin (iList K (tVar i)) (fItV i) (fun ρ ρ2 => ρ2.set i (ρ[i]?.getD none)) [i] := by
  intro S H T ρ σ F R ds ρ' w e k
  unfold fItV at e
  split at e
  · rename_i us h0
    obtain ⟨ds', hst, hpe⟩ := Option.map_eq_some_iff.mp e
    cases hpe
    have hus := stAll_eq hst
    subst hus
    obtain ⟨b, vs0, hv, hb0, hl0, w3⟩ := sat_list w h0
    obtain ⟨ws, hb1, hb2, o4⟩ := w3.own.toCell
    have hb3 : ws.length = ds.length := by simpa using hb2
    have rp : RpI K S (ws.zip ds) := by
      obtain ⟨_, fp, z, _⟩ := o4
      cases z with
      | cell a tl =>
        obtain ⟨f1, g1, _, h1, _⟩ := tl.split
        exact zip_st hb3 h1
    have w4 : Sat K pin S H (((.ref b, .cell b (.lst ws)) :: ws.zip (ds.map .st)) ++ T) (ρ.set i none) σ F := w3.with (o4.perm (.of_eq (by simp)))
    refine ⟨.ref b, hv, b, rfl, ⟨ws, SqL.of hb1⟩, k (Itl K b) _ (YAt ws) _ S H (ex_refl S) w4 (hb3 ▸ walk_list (K := K)) (fun S2 H2 L e2 o2 hm => ?_) (fun j d H2 y H3 S2 L hd e2 o2 hy => ?_) fun S2 H2 T2 ρ2 w5 => ?_⟩
    · exact SqL.of (Own.at_ (x := .ref b) (o := .cell b (.lst ws)) o2 (hm _ (by simp))).cell.2
    · obtain ⟨rfl, hvv⟩ := hy
      exact ⟨S2, ex_refl S2, o2.push ((rp_at rp hvv hd).mono e2)⟩
    · have w6 : Sat K pin S2 H2 ((.ref b, .ol (ds.map .st)) :: T2) ρ2 σ F := w5.with (Own.ofCell (w5.own.perm (.of_eq (by simp))) hb2)
      have w7 := w6.back hv
      show Sat K pin S2 H2 T2 (ρ2.set i (ρ[i]?.getD none)) σ F
      rw [h0]
      exact w7
  · cases e
theorem sil_var {i : Nat} {x : Str} {tg : Expr} {p2 : Pos} (hN : X.N[i]? = some x := by rfl) (hv : Vis X.env.scope x := by first | exact Or.inl rfl | exact Or.inr (Or.inl rfl) | exact Or.inr (Or.inr rfl)) (hd : (x == ("__debug__" : Str)) = false := by decide) (hcd : (x == ("__classdict__" : Str)) = false := by decide)
    (hK : X.K = K := by rfl) : SIL X pin tg (.Name x p2) (iList K (tVar i)) (fItV i) (fun ρ ρ2 => ρ2.set i (ρ[i]?.getD none)) [i] := by
  subst hK
  exact ⟨pi_list (pe_var hN hv hd hcd), ril_var⟩
def fLcL (own : List Nat) (it : Fi) (bk : Rho → Rho → Rho) (tg : Fg) (tt : Ft) (te : Fe) : Fe := fun ρ => match it ρ with
  | none => none
  | some (ds, ρ1) => match compL own tg tt te ds (wipeR ρ1 own) [] with
    | none => none
    | some (acc, ρ2) => some (.ol acc, bk ρ (wipeR ρ2 own))
theorem re_lcL {wi : TI} {fi : Fi} {bk : Rho → Rho → Rho} {g : TG} {fg : Fg} {sl sl' own : List Nat} {tt : TT} {ft : Ft} {te : TE} {fe : Fe} (hi : RIL K pin wi fi bk sl') (hg : RG K pin sl g fg) (ht : RT K pin tt ft) (he : RE K pin te fe) (hs : ∀ i ∈ sl, i ∈ own) (hp : ∀ i ∈ own, NoPin pin i) :
    RE K pin (tLc wi g tt te own) (fLcL own fi bk fg ft fe) := by
  intro S H T ρ σ F Q od ρ' w e k
  unfold fLcL at e
  split at e
  · cases e
  · rename_i ds ρ1 q
    split at e
    · cases e
    · rename_i acc ρ2 q2
      cases e
      refine hi S H T ρ σ F _ ds ρ1 w q fun J G Y Xs S' H' x w' W hG hY hB D hD => ?_
      have pin0 := w'.pin
      refine lc_it W (fun i H => ∃ S2 ρ3 ac, Ex S' S2 ∧ Sat K pin S2 H ((.ref D, .ol ac) :: (Xs ++ T)) ρ3 (wipe σ own) F ∧ compL own fg ft fe (ds.drop i) ρ3 ac = some (acc, ρ2)) ?_ ?_ ?_ ?_
      · refine ⟨S', wipeR ρ1 own, [], ex_refl S', ?_, by simpa using q2⟩
        have w1 := w'.into (vs := own) hp
        exact w1.with (Own.newL (vs := []) (os := []) w1.own rfl hD)
      · rintro i H _ ⟨S2, ρ3, ac, e2, w2, _⟩
        exact hG S2 H _ e2 w2.own fun z hz => by
          simp only [List.cons_append, List.mem_cons, List.mem_append]
          exact .inr (.inl (.inl hz))
      · rintro i y H H2 hi' ⟨S2, ρ3, ac, e2, w2, l2⟩ hy
        obtain ⟨d, hd⟩ : ∃ d, ds[i]? = some d := ⟨ds[i], by simp [hi']⟩
        have hdr : ds.drop i = d :: ds.drop (i + 1) := by
          rw [List.drop_eq_getElem_cons hi']
          congr 1
          have := List.getElem?_eq_getElem hi'
          rw [this] at hd
          exact Option.some.inj hd
        rw [hdr] at l2
        obtain ⟨S3, e3, o3⟩ := hY i d H y H2 S2 _ hd e2 w2.own hy
        have w3 : Sat K pin S3 H2 ((y, .st d) :: (.ref D, .ol ac) :: (Xs ++ T)) ρ3 (wipe σ own) F := w2.with o3
        unfold compL at l2
        split at l2
        · cases l2
        · rename_i ρ4 q4
          refine hg S3 H2 _ ρ3 (wipe σ own) F y (.st d) _ ρ4 w3 q4 fun S4 H4 σ4 e4 on w4 => ?_
          have hw := wipe_only on hs
          refine ⟨hw, ?_⟩
          have e04 : Ex S' S4 := ex_trans e2 (ex_trans e3 e4)
          split at l2
          · cases l2
          · rename_i ρ5 q5
            refine ht S4 H4 _ ρ4 σ4 F _ _ _ w4 q5 fun S5 H5 e5 w5 => ?_
            exact ⟨S5, wipeR ρ5 own, ac, ex_trans e04 e5, w5.outof hw hp, l2⟩
          · rename_i ρ5 q5
            refine ht S4 H4 _ ρ4 σ4 F _ _ _ w4 q5 fun S5 H5 e5 w5 => ?_
            show te σ4 H5 _
            split at l2
            · cases l2
            · rename_i o ρ6 q6
              split at l2
              · rename_i hb
                refine he S5 H5 _ ρ5 σ4 F _ _ _ w5 q6 fun v S6 H6 e6 w6 => ?_
                obtain ⟨vs, h1, h2, h3⟩ := w6.own.app
                refine ⟨vs, h1, by rw [h2]; exact big_lt hb, S6, wipeR ρ6 own, ac ++ [o], ex_trans e04 (ex_trans e5 e6), ?_, l2⟩
                exact (w6.with h3).outof hw hp
              · cases l2
      · rintro H ⟨S2, ρ3, ac, e2, w2, l2⟩
        rw [List.drop_length] at l2
        cases l2
        have w3 : Sat K pin S2 H ((.ref D, .ol acc) :: (Xs ++ T)) (wipeR ρ2 own) (wipe σ own) F := by
          have := w2.into (vs := own) hp
          have hh : wipe (wipe σ own) own = wipe σ own := wipe_only (sl := []) (Only.refl _) (fun _ z => nomatch z)
          rw [hh] at this
          exact this
        have w4 := w3.leave pin0
        have w5 : Sat K pin S2 H (Xs ++ ((.ref D, .ol acc) :: T)) (wipeR ρ2 own) σ F := w4.with (w4.own.perm (by
          rw [List.append_assoc]
          simp only [List.cons_append, List.append_assoc]
          exact List.perm_middle.symm))
        exact k _ S2 H (ex_trans x e2) (hB S2 H _ _ w5)
theorem se_lcL {elt tg iter : Expr} {ifs : List Expr} {scope : Scope} {own : List (Str × Nat)} {wi : TI} {fi : Fi} {bk : Rho → Rho → Rho} {g : TG} {fg : Fg} {sl sl' : List Nat} {tt : TT} {ft : Ft} {te : TE} {fe : Fe} (hc : X.calm = true) (hN : X.N.Nodup) (hi : SIL X pin tg iter wi fi bk sl') (ok : BlkOk X.N X.env.scope scope own)
    (hp : ∀ i ∈ own.map (·.2), NoPin pin i) (hsl : ∀ i ∈ sl, i ∈ own.map (·.2))
    (hg : ∀ (s : Shared) (H : Hp) (C : Addr) (cl : List (Str × Addr)) (fp : List Addr), SG (X.blk s H scope (compEnvC scope cl C X.env) fp) pin sl tg g fg) (ht : ∀ (s : Shared) (H : Hp) (C : Addr) (cl : List (Str × Addr)) (fp : List Addr), STL (X.blk s H scope (compEnvC scope cl C X.env) fp) pin ifs tt ft)
    (he : ∀ (s : Shared) (H : Hp) (C : Addr) (cl : List (Str × Addr)) (fp : List Addr), SE (X.blk s H scope (compEnvC scope cl C X.env) fp) pin elt te fe) (hs : ∀ x, foldedSetIterable iter X.env x = pure x := by intro _; rfl) :
    SE X pin (.ListComp elt [⟨tg, iter, ifs, 0⟩] scope pos) (tLc wi g tt te (own.map (·.2))) (fLcL (own.map (·.2)) fi bk fg ft fe) :=
  ⟨pe_lc hc hN hi.pe ok (fun s H C cl fp => (hg s H C cl fp).pe) (fun s H C cl fp => (ht s H C cl fp).pe) (fun s H C cl fp => (he s H C cl fp).pe) hs,
   re_lcL hi.rd (hg X.s_0 X.H_0 0 [] []).rd (ht X.s_0 X.H_0 0 [] []).rd (he X.s_0 X.H_0 0 [] []).rd hsl hp⟩
end
end Qy
set_option Elab.async false
set_option linter.all false
set_option maxRecDepth 100000
namespace Qy
open PySem PySem.Spec PyProof.Rows L2 ClX
section
variable {M : Model} {prog : Program} {w : World} {A : Around} {E : Value → Shared → Prop} {s : Shared} {K : PySem.W.Frag} {x y C f : Addr} {ox : Obj} {od : Option Obj}
/-! ### the first one's __ne__ is object's own -/
theorem bound_ne {more : List Value} {Q : Option Value → Shared → Prop} (kin : K.In s.heap) (J : PySem.W.InstAt s.heap x ox C od) (hs : PySem.W.findIn K (.ref C) "__ne__" = some (some (.builtin "object.__ne__")))
    (q : wpAny M A (call (.builtin "object.__ne__") (.ref x :: more)) (fun v => Q (some v)) E s) : wpAny M A (callSpecialIfBound? (.ref x) "__ne__" more) Q E s := by
  have last : wpAny M A (call (.builtin "object.__ne__") ([.ref x] ++ more) >>= fun v => pure (some v)) Q E s := wpAny_bind (wpAny_mono q (fun _ _ z => wpAny_pure z) fun _ _ z => z)
  simp only [callSpecialIfBound?, bindSpecialIfBound?]
  refine wpAny_holding (wpAny_bind (wpAny_bind (wpAny_bind (J.type.here ((PySem.W.looks_findIn kin hs).here (wpAny_bind (wpAny_askSetting (wpAny_ite ?_))))))))
  split
  · exact wpAny_bind (wpAny_of_eq (F.cmp_object.ne.bind _) (wpAny_pure (by exact last)))
  · exact wpAny_tryCatch (wpAny_bind (wpAny_of_eq (F.cmp_object.ne.bind _) (wpAny_pure (by exact last))))
theorem ne_inner {Q : Fin → Shared → Prop} (hu : A.units < cLine) (kin : K.In s.heap) (J : PySem.W.InstAt s.heap x ox C od) (hs : PySem.W.findIn K (.ref C) "__eq__" = some (some (.ref f))) (hf : PySem.W.isFn K (.ref f) = true)
    (q : wpAny (model prog w) A (call (.ref f) [.ref x, .ref y]) (fun v s' => ∃ b, v = .bool b ∧ Q (.done (.ret (.bool (!b)))) s') E s) : wpAny (model prog w) A (Builtin.«object.__ne__» ⟨[.ref x, .ref y], []⟩) Q E s := by
  unfold Builtin.«object.__ne__»
  repeat (first
    | with_reducible refine wpAny_cRoomFor hu ?_
    | (refine wpAny_bind (m := callSpecialIfBound? (.ref x) (Str.ofString "__eq__") [.ref y]) (PySem.W.ifBound_K kin J hs hf (wpAny_mono q (fun r s' hr => by
          obtain ⟨b, rfl, hq⟩ := hr
          repeat (first | exact hq | exact wpAny_pure hq | exact wpAny_truthy_bool hq | (refine wpAny_bind (m := truthy (.bool _)) (wpAny_truthy_bool ?_)) | wp_step)) fun _ _ z => z)))
    | wp_step)
theorem ne_own {Q : Value → Shared → Prop} {oy : Obj} {oe : Option Obj} (hu : A.units + 1 < cLine) (kin : K.In s.heap) (J : PySem.W.InstAt s.heap x ox C od) (J2 : PySem.W.InstAt s.heap y oy C oe)
    (hn : PySem.W.findIn K (.ref C) "__ne__" = some (some (.builtin "object.__ne__"))) (hm : PySem.W.mroIn K C (.type "object") = some true) (hs : PySem.W.findIn K (.ref C) "__eq__" = some (some (.ref f))) (hf : PySem.W.isFn K (.ref f) = true)
    (q : wpAny (model prog w) A.in1 (call (.ref f) [.ref x, .ref y]) (fun v s' => ∃ b, v = .bool b ∧ Q (.bool (!b)) s') E s) : wpAny (model prog w) A (richCompare .NotEq (.ref x) (.ref y)) Q E s := by
  have one : wpAny (model prog w) A (tryCompare (.ref x) "__ne__" (.ref y)) (fun r s' => ∃ v, r = some v ∧ Q v s') E s := by
    unfold tryCompare
    refine wpAny_bind (bound_ne kin J hn (wpAny_call (codeAny_call_builtin F.cmp_object.ne.plain F.cmpEntry_ne (PySem.W.check_slot F.cmpKind_ne F.cmpSplit_ne (J.type.andThen (PySem.W.looks_mroIn kin hm)) (F.cmpArgs_ne _ _)
      (ne_inner (A := A.in1) hu kin J hs hf (wpAny_mono q (fun v s' hv => ?_) fun _ _ z => z))))))
    obtain ⟨b, rfl, hq⟩ := hv
    exact ⟨b, rfl, wpAny_pure ⟨_, rfl, hq⟩⟩
  unfold richCompare
  simp only [oneThing_ref]
  refine wpAny_holding (wpAny_bind (wpAny_cRoomFor (Nat.lt_of_succ_lt hu) ?_))
  rw [cmpInfo_NotEq]
  dsimp only
  refine wpAny_bind (J.type.here (wpAny_bind (J2.type.here ?_)))
  rw [show (Value.ref C != Value.ref C) = false from by simp]
  simp only [Bool.false_eq_true, if_false]
  refine wpAny_bind (wpAny_pure ?_)
  simp only [Bool.false_eq_true, if_false]
  refine wpAny_bind (wpAny_mono one (fun r s' z => ?_) fun _ _ z => z)
  obtain ⟨v, rfl, hq⟩ := z
  exact wpAny_pure hq
end
section
variable {X : Cx} {pin : List (Option V)} {K : PySem.W.Frag} {S S' H : Hp} {e a b c o : Expr} {es : List Expr} {t ta tb tc tj : TE} {tA : TA} {fA : Fa} {f fj : Fe} {oa ob : Fo} {pos p apos : Pos} {L T F : List It} {ρ ρ2 : Rho} {σ : L2.St} {cn m : Str} {mi : Mir} {k : Nat} {ps : List Str} {bk : List (Option Nat)}
/-- one call, one step further in -/
theorem run_in {CX : CXT} {fa : Addr} {fd : FuncData} {sp : Sp} {E : XK} {args : Args} {us : List Value} {vs : List V} {pins : List (Addr × Obj)} {z : Shared} {Q : VK} (F : FnG X.prog X.w X.K X.mg X.base CX k fa fd ps sp) (gd : X.A.guards = some []) (hr : Room (k + 1) X.A) (hx : Passes CX X E) (I : Inv X pins σ H z)
    (hb : BindsTo z fd args (ps.zip us)) (r : Vals vs us) (h : sp vs H Q E) : codeAny (model X.prog X.w) X.A.in1 (.call (.ref fa) args) (fun rr z2 => match rr with | .ok (.ret u) => EP X pins σ Q u z2 | .ok _ => False | .error er => X.xe er z2) z := by
  refine codeAny_mono (F.run X.A.in1 X.stack z H args us vs Q E gd hr.in1 I.env0.in1 hb r h) fun rr z2 hq => ?_
  cases rr with
  | error er => exact hx pins σ H z er z2 I hq
  | ok fl => cases fl with
    | ret u => exact I.after hq
    | next | brk | cont => exact hq.elim
theorem wp_in {fa : Addr} {us : List Value} {pins : List (Addr × Obj)} {z : Shared} {Q : VK} (h : codeAny (model X.prog X.w) X.A.in1 (.call (.ref fa) ⟨us, []⟩) (fun rr z2 => match rr with | .ok (.ret u) => EP X pins σ Q u z2 | .ok _ => False | .error er => X.xe er z2) z) :
    wpAny (model X.prog X.w) X.A.in1 (call (.ref fa) us) (EP X pins σ Q) X.xe z := wpAny_call (codeAny_mono h fun rr z2 q => by
  cases rr with
  | error er => exact q
  | ok fl => cases fl with
    | ret u => exact q
    | next | brk | cont => exact q.elim)
/-! ### != of one's own -/
structure NeE (K : PySem.W.Frag) (cn : Str) : Prop where
  ne : PySem.W.findIn K (.ref (He.ga K cn)) "__ne__" = some (some (.builtin "object.__ne__"))
  mro : PySem.W.mroIn K (He.ga K cn) (.type "object") = some true
def rOwnNe (K : PySem.W.Frag) (cn : Str) (sp : Sp) : R2 := fun x y H Q => ∃ a dx fs b dy gs, x = .ref a ∧ y = .ref b ∧ H a = some (.ins (He.ga K cn) dx fs) ∧ H b = some (.ins (He.ga K cn) dy gs) ∧ sp [x, y] H (fun v H' => ∃ d, v = .bl d ∧ Q (.bl (!d)) H') E0
theorem op_ownNe (N : NeE X.K cn) (c : CalM X.prog X.w X.K X.mg X.base cn "__eq__" k ps mi) (gd : X.A.guards = some []) (hr : Room (k + 1) X.A) : OpR X (compareOp .NotEq) (rOwnNe X.K cn (spM X.K ps.length mi)) := by
  intro pins s σ H x y v u Q I rx ry h
  obtain ⟨ad, dx, fs, bd, dy, gs, rfl, rfl, ha, hb2, q⟩ := h
  cases rx
  cases ry
  obtain ⟨f, fd, h1, h2, h3, h4, h5⟩ := c.ex
  obtain ⟨mA, O1, _⟩ := ins_get I.hok ha
  obtain ⟨od, J, _⟩ := O1.look
  obtain ⟨mB, O2, _⟩ := ins_get I.hok hb2
  obtain ⟨od2, J2, _⟩ := O2.look
  have hl : ([Value.ref ad, Value.ref bd] : List Value).length = ps.length := by
    have := h5.len _ _ _ _ q
    simpa using this
  have hb := h4 s [Value.ref ad, Value.ref bd] I.kIn (by simpa using hl)
  rw [List.append_nil] at hb
  have z := wp_in (run_in (vs := [.ref ad, .ref bd]) h5 gd hr pass0 I hb (.cons rfl (.cons rfl .nil)) q)
  show wpAny _ _ (richCompare .NotEq _ _) _ _ _
  have hu : X.A.units + 1 < cLine := by have := hr.un; omega
  refine ne_own hu I.kIn J J2 N.ne N.mro h1 h2 (wpAny_mono z (fun r z' hz => ?_) fun _ _ y => y)
  obtain ⟨v, H', I', rv, ⟨d, hv, q'⟩⟩ := hz
  subst hv
  cases rv
  exact ⟨d, rfl, .bl (!d), H', I', rfl, q'⟩
def gOwnNe (cn : Str) (m : Mir) : OD → OD → Option OD
  | .st (.ins c fs), .st (.ins c' gs) => if c = cn ∧ c' = cn then (match m [.st (.ins c fs), .st (.ins c' gs)] with
    | some (.st (.bl d), outs) => if outs.length = 2 then some (.st (.bl (!d))) else none
    | _ => none) else none
  | _, _ => none
theorem rg_ownNe : RG2 K (rOwnNe K cn (spM K 2 mi)) (gOwnNe cn mi) := by
  intro S H L x y ox oy oz Q w e k
  unfold gOwnNe at e
  split at e
  · rename_i c fs c' gs
    split at e
    · rename_i hc
      obtain ⟨rfl, rfl⟩ := hc
      split at e
      · rename_i d outs hm
        split at e
        · rename_i hl
          cases e
          cases w.at1.st with
          | @ins ad _ dx vs _ _ a1 a2 a3 _ =>
            cases w.at0.st with
            | @ins bd _ dy us _ _ b1 b2 b3 _ =>
              refine ⟨ad, dx, vs, bd, dy, us, rfl, rfl, w.le _ _ a1, w.le _ _ b1, S, L, [.st (.ins c' fs), .st (.ins c' gs)], .st (.bl d), outs, rfl, rfl, hl, w.perm (.swap _ _ _), hm, fun v S' H' e' o' => ?_⟩
              have hv : v = .bl d := by cases o'.known; rfl
              refine ⟨d, hv, k _ S' H' e' ?_⟩
              have o2 : Own K S' H' [] ((v, .st (.bl d)) :: L) := Own.sub o' ⟨its outs (([.ref ad, .ref bd] : List V).map some), List.perm_middle.symm⟩
              have o3 : Own K S' H' [] L := o2.tl
              have r1' : Rp K S' (.ref ad) (.ins c' fs) := RpI.mono e' (.ins a1 a2 a3 .nil)
              have r2' : Rp K S' (.ref bd) (.ins c' gs) := RpI.mono e' (.ins b1 b2 b3 .nil)
              exact ((o3.push r1').push r2').push (.bl .nil)
        · cases e
      · cases e
    · cases e
  · cases e
/-! ### a text in one's own -/
def rOwnIn (K : PySem.W.Frag) (cn : Str) (nt : Bool) (sp : Sp) : R2 := fun x y H Q => ∃ a dx fs z, x = .str z ∧ y = .ref a ∧ H a = some (.ins (He.ga K cn) dx fs) ∧ sp [y, x] H (fun v H' => ∃ d, v = .bl d ∧ Q (.bl (d != nt)) H') E0
theorem op_ownIn (c : CalM X.prog X.w X.K X.mg X.base cn "__contains__" k ps mi) (gd : X.A.guards = some []) (hr : Room k X.A) : OpR X (compareOp .In) (rOwnIn X.K cn false (spM X.K ps.length mi)) := by
  intro pins s σ H x y v u Q I rx ry h
  obtain ⟨ad, dx, fs, z, rfl, rfl, ha, q⟩ := h
  obtain ⟨tk, rfl⟩ := rx
  cases ry
  obtain ⟨f, fd, h1, h2, h3, h4, h5⟩ := c.ex
  obtain ⟨m, hF⟩ := I.fr
  obtain ⟨mA, O1, _⟩ := ins_get I.hok ha
  obtain ⟨od, J, _⟩ := O1.look
  have hl : ([Value.ref ad, Value.str z tk] : List Value).length = ps.length := by
    have := h5.len _ _ _ _ q
    simpa using this
  have hb := h4 s [Value.ref ad, Value.str z tk] I.kIn (by simpa using hl)
  rw [List.append_nil] at hb
  have zz := wp_g (run_g (vs := [.ref ad, .str z]) h5 gd hr pass0 I hb (.cons rfl (.cons ⟨tk, rfl⟩ .nil)) q)
  refine PySem.W.in_K hF I.ok.mod.kin J h1 h2 (wpAny_mono zz (fun r z' hz => ?_) fun _ _ y => y)
  obtain ⟨v, H', I', rv, ⟨d, hv, q'⟩⟩ := hz
  subst hv
  cases rv
  exact wpAny_truthy_bool ⟨.bl d, H', I', rfl, by simpa using q'⟩
theorem op_ownNotIn (c : CalM X.prog X.w X.K X.mg X.base cn "__contains__" k ps mi) (gd : X.A.guards = some []) (hr : Room k X.A) : OpR X (compareOp .NotIn) (rOwnIn X.K cn true (spM X.K ps.length mi)) := by
  intro pins s σ H x y v u Q I rx ry h
  obtain ⟨ad, dx, fs, z, rfl, rfl, ha, q⟩ := h
  obtain ⟨tk, rfl⟩ := rx
  cases ry
  obtain ⟨f, fd, h1, h2, h3, h4, h5⟩ := c.ex
  obtain ⟨m, hF⟩ := I.fr
  obtain ⟨mA, O1, _⟩ := ins_get I.hok ha
  obtain ⟨od, J, _⟩ := O1.look
  have hl : ([Value.ref ad, Value.str z tk] : List Value).length = ps.length := by
    have := h5.len _ _ _ _ q
    simpa using this
  have hb := h4 s [Value.ref ad, Value.str z tk] I.kIn (by simpa using hl)
  rw [List.append_nil] at hb
  have zz := wp_g (run_g (vs := [.ref ad, .str z]) h5 gd hr pass0 I hb (.cons rfl (.cons ⟨tk, rfl⟩ .nil)) q)
  refine PySem.W.notIn_K hF I.ok.mod.kin J h1 h2 (wpAny_mono zz (fun r z' hz => ?_) fun _ _ y => y)
  obtain ⟨v, H', I', rv, ⟨d, hv, q'⟩⟩ := hz
  subst hv
  cases rv
  exact wpAny_truthy_bool ⟨.bl (!d), H', I', rfl, by simpa using q'⟩
def gOwnIn (cn : Str) (nt : Bool) (m : Mir) : OD → OD → Option OD
  | .st (.str z), .st (.ins c fs) => if c = cn then (match m [.st (.ins c fs), .st (.str z)] with
    | some (.st (.bl d), outs) => if outs.length = 2 then some (.st (.bl (d != nt))) else none
    | _ => none) else none
  | _, _ => none
theorem rg_ownIn {nt : Bool} : RG2 K (rOwnIn K cn nt (spM K 2 mi)) (gOwnIn cn nt mi) := by
  intro S H L x y ox oy oz Q w e k
  unfold gOwnIn at e
  split at e
  · rename_i z c fs
    split at e
    · rename_i hc
      subst hc
      split at e
      · rename_i d outs hm
        split at e
        · rename_i hl
          cases e
          have r1 := w.at1.st
          cases r1
          cases w.at0.st with
          | @ins ad _ dx vs _ _ a1 a2 a3 _ =>
            refine ⟨ad, dx, vs, z, rfl, rfl, w.le _ _ a1, S, L, [.st (.ins c fs), .st (.str z)], .st (.bl d), outs, rfl, rfl, hl, w, hm, fun v S' H' e' o' => ?_⟩
            have hv : v = .bl d := by cases o'.known; rfl
            refine ⟨d, hv, k _ S' H' e' ?_⟩
            have o2 : Own K S' H' [] ((v, .st (.bl d)) :: L) := Own.sub o' ⟨its outs (([.ref ad, .str z] : List V).map some), List.perm_middle.symm⟩
            have o3 : Own K S' H' [] L := o2.tl
            have r1' : Rp K S' (.ref ad) (.ins c fs) := RpI.mono e' (.ins a1 a2 a3 .nil)
            exact ((o3.push (show Rp K S' (.str z) (.str z) from .str .nil)).push r1').push (.bl .nil)
        · cases e
      · cases e
    · cases e
  · cases e
end
end Qy
set_option Elab.async false
set_option linter.all false
set_option maxRecDepth 100000
namespace Qy
open PySem PySem.Spec PyProof.Rows L2 ClX
section
variable {X : Cx} {pin : List (Option V)} {K : PySem.W.Frag} {S S' H : Hp} {e a b c o : Expr} {es : List Expr} {t ta tb tc tj : TE} {tA : TA} {fA : Fa} {f fj : Fe} {oa ob : Fo} {pos p apos : Pos} {L T F : List It} {ρ ρ2 : Rho} {σ : L2.St} {cn m : Str} {mi : Mir} {k : Nat} {ps : List Str} {bk : List (Option Nat)}
/-! ### len of one's own -/
def rLenOwn (K : PySem.W.Frag) (cn : Str) (sp : Sp) : List V → Hp → VK → Prop := fun xs H Q => ∃ a dx fs, xs = [.ref a] ∧ H a = some (.ins (He.ga K cn) dx fs) ∧ sp [.ref a] H (fun v H' => ∃ n, v = .int n ∧ (0 ≤ n ∧ n < 2 ^ 63) ∧ Q (.int n) H') E0
theorem call_lenOwn (c : CalM X.prog X.w X.K X.mg X.base cn "__len__" k ps mi) (gd : X.A.guards = some []) (hr : Room (k + 1) X.A) : CallR X (.builtin "len") (rLenOwn X.K cn (spM X.K ps.length mi)) := by
  intro pins s σ H xs us Q I rv h
  obtain ⟨ad, dx, fs, rfl, ha, q⟩ := h
  obtain ⟨u, rfl, ru⟩ := rv.one
  cases ru
  obtain ⟨f, fd, h1, h2, h3, h4, h5⟩ := c.ex
  obtain ⟨m, hF⟩ := I.fr
  obtain ⟨mA, O1, _⟩ := ins_get I.hok ha
  obtain ⟨od, J, _⟩ := O1.look
  have hl : ([Value.ref ad] : List Value).length = ps.length := by
    have := h5.len _ _ _ _ q
    simpa using this
  have hb := h4 s [Value.ref ad] I.kIn (by simpa using hl)
  rw [List.append_nil] at hb
  have z := wp_in (run_in (vs := [.ref ad]) h5 gd hr pass0 I hb (.cons rfl .nil) q)
  refine PySem.W.len_K hF I.ok.mod.kin J h1 h2 (wpAny_mono z (fun r z' hz => ?_) fun _ _ y => y)
  obtain ⟨v, H', I', rv, ⟨n, hv, hn, q'⟩⟩ := hz
  subst hv
  obtain ⟨tk, rfl⟩ := rv
  exact ⟨hn, .int n, H', I'.kept (t' := z'.toks + 1) (fun b o e => e), ⟨_, rfl⟩, q'⟩
def gLenOwn (cn : Str) (m : Mir) : OD → Option OD
  | .st (.ins c fs) => if c = cn then (match m [.st (.ins c fs)] with
    | some (.st (.int n), outs) => if outs.length = 1 ∧ 0 ≤ n ∧ n < 2 ^ 63 then some (.st (.int n)) else none
    | _ => none) else none
  | _ => none
theorem rg_lenOwn : RG1 K (fun x H Q => rLenOwn K cn (spM K 1 mi) [x] H Q) (gLenOwn cn mi) := by
  intro S H L x ox oz Q w e k
  unfold gLenOwn at e
  split at e
  · rename_i c fs
    split at e
    · rename_i hc
      subst hc
      split at e
      · rename_i n outs hm
        split at e
        · rename_i hl
          cases e
          cases w.at0.st with
          | @ins ad _ dx vs _ _ a1 a2 a3 _ =>
            refine ⟨ad, dx, vs, rfl, w.le _ _ a1, S, L, [.st (.ins c fs)], .st (.int n), outs, rfl, rfl, hl.1, w, hm, fun v S' H' e' o' => ?_⟩
            have hv : v = .int n := by cases o'.known; rfl
            refine ⟨n, hv, hl.2, k _ S' H' e' ?_⟩
            have o2 : Own K S' H' [] ((v, .st (.int n)) :: L) := Own.sub o' ⟨its outs (([.ref ad] : List V).map some), List.perm_middle.symm⟩
            have r1' : Rp K S' (.ref ad) (.ins c fs) := RpI.mono e' (.ins a1 a2 a3 .nil)
            exact (o2.tl.push r1').push (.int .nil)
        · cases e
      · cases e
    · cases e
  · cases e
/-! ### operators of one's own, the right side of the same class -/
def rOwnO (K : PySem.W.Frag) (cn : Str) (sp : Sp) : R2 := fun x y H Q => ∃ a dx fs b dy gs, x = .ref a ∧ y = .ref b ∧ H a = some (.ins (He.ga K cn) dx fs) ∧ H b = some (.ins (He.ga K cn) dy gs) ∧ sp [x, y] H (fun v H' => (∃ b, v = .ref b) ∧ Q v H') E0
theorem op_ownO {op : Operator} (hfi : PySem.W.selfFirst X.K (He.ga X.K cn) = true) (c : CalM X.prog X.w X.K X.mg X.base cn (PySem.dunder op.info.2) k ps mi) (gd : X.A.guards = some []) (hr : Room k X.A) : OpR X (binaryOp op) (rOwnO X.K cn (spM X.K ps.length mi)) := by
  intro pins s σ H x y v u Q I rx ry h
  obtain ⟨ad, dx, fs, bd, dy, gs, rfl, rfl, ha, hb2, q⟩ := h
  cases rx
  cases ry
  obtain ⟨f, fd, h1, h2, h3, h4, h5⟩ := c.ex
  obtain ⟨m, hF⟩ := I.fr
  obtain ⟨mA, O1, _⟩ := ins_get I.hok ha
  obtain ⟨od, J, _⟩ := O1.look
  obtain ⟨mB, O2, _⟩ := ins_get I.hok hb2
  obtain ⟨od2, J2, _⟩ := O2.look
  have hl : ([Value.ref ad, Value.ref bd] : List Value).length = ps.length := by
    have := h5.len _ _ _ _ q
    simpa using this
  have hb := h4 s [Value.ref ad, Value.ref bd] I.kIn (by simpa using hl)
  rw [List.append_nil] at hb
  have z := wp_g (run_g (vs := [.ref ad, .ref bd]) h5 gd hr pass0 I hb (.cons rfl (.cons rfl .nil)) q)
  refine PySem.W.binop_K hF I.ok.mod.kin J J2.type hfi h1 h2 (wpAny_mono z (fun r z' hz => ?_) fun _ _ y => y)
  obtain ⟨v, H', I', rv, ⟨b, hv⟩, q'⟩ := hz
  subst hv
  cases rv
  exact ⟨.ref b, H', I', rfl, q'⟩
def gOwnO (cn : Str) (m : Mir) : OD → OD → Option OD
  | .st (.ins c fs), .st (.ins c' gs) => if c = cn ∧ c' = cn then (match m [.st (.ins c fs), .st (.ins c' gs)] with
    | some (.st (.ins c2 hs), outs) => if outs.length = 2 then some (.st (.ins c2 hs)) else none
    | _ => none) else none
  | _, _ => none
theorem rg_ownO : RG2 K (rOwnO K cn (spM K 2 mi)) (gOwnO cn mi) := by
  intro S H L x y ox oy oz Q w e k
  unfold gOwnO at e
  split at e
  · rename_i c fs c' gs
    split at e
    · rename_i hc
      obtain ⟨rfl, rfl⟩ := hc
      split at e
      · rename_i c2 hs outs hm
        split at e
        · rename_i hl
          cases e
          cases w.at1.st with
          | @ins ad _ dx vs _ _ a1 a2 a3 _ =>
            cases w.at0.st with
            | @ins bd _ dy us _ _ b1 b2 b3 _ =>
              refine ⟨ad, dx, vs, bd, dy, us, rfl, rfl, w.le _ _ a1, w.le _ _ b1, S, L, [.st (.ins c' fs), .st (.ins c' gs)], .st (.ins c2 hs), outs, rfl, rfl, hl, w.perm (.swap _ _ _), hm, fun v S' H' e' o' => ?_⟩
              have hv : ∃ b, v = .ref b := by
                cases o'.known
                exact ⟨_, rfl⟩
              refine ⟨hv, k v S' H' e' ?_⟩
              have o2 : Own K S' H' [] ((v, .st (.ins c2 hs)) :: L) := Own.sub o' ⟨its outs (([.ref ad, .ref bd] : List V).map some), List.perm_middle.symm⟩
              have r1' : Rp K S' (.ref ad) (.ins c' fs) := RpI.mono e' (.ins a1 a2 a3 .nil)
              have r2' : Rp K S' (.ref bd) (.ins c' gs) := RpI.mono e' (.ins b1 b2 b3 .nil)
              exact ((o2.push r1').push r2').perm ((List.Perm.cons _ (.swap _ _ _)).trans (.swap _ _ _))
        · cases e
      · cases e
    · cases e
  · cases e
/-! ### methods: o.m() and o.m(b), o and b at rest -/
def rMeth0 (K : PySem.W.Frag) (cn m : Str) (sp : Sp) : V → Hp → VK → Prop := fun x H Q => ∃ a dx fs, x = .ref a ∧ H a = some (.ins (He.ga K cn) dx fs) ∧ fs.lookup m = none ∧ sp [x] H Q E0
theorem pe_m0 {pl : Sem Bool} (he : PE X o ta) (C : Cls X.K (He.ga X.K cn)) (c : CalM X.prog X.w X.K X.mg X.base cn m k ps mi) (gd : X.A.guards = some []) (hr : Room k X.A)
    (ht : eval (.Call (.Attribute o m apos) [] [] pos) X.env = (do
      let ov ← eval o X.env
      standAt apos.atName
      let (fx, fst) ← holding [ov] (getMethod ov m pl)
      callWith pos fx fst (backTo pos (starEach [] X.env)) (backToKw pos (keywordEach [] X.env))) := by rfl) : PE X (.Call (.Attribute o m apos) [] [] pos) (tUn (rMeth0 X.K cn m (spM X.K ps.length mi)) ta) := by
  obtain ⟨f, fd, h1, h2, h3, h4, h5⟩ := c.ex
  refine ⟨fun pins s σ H Q I h => PySem.W.methodCall_KW (pl := pl) (thn (he.run pins s σ H _ I h) fun u s1 ⟨x, H1, I1, rx, a, dx, fs, ex, ea, l, q⟩ => ?_) ht⟩
  subst ex
  obtain rfl : u = Value.ref a := rx
  have hl : ([Value.ref a] : List Value).length = ps.length := by
    have := h5.len _ _ _ _ q
    simpa using this
  have hb := h4 s1 [Value.ref a] I1.kIn (by simpa using hl)
  rw [List.append_nil] at hb
  exact getmeth_ok I1 ea C ⟨h1, h2, h3⟩ l (PySem.W.callWith_K0 (first := [.ref a]) I1.kIn h3 (wp_g (run_g (us := [.ref a]) (vs := [.ref a]) h5 gd hr pass0 I1 hb (.cons rfl .nil) q)))
theorem lookup_no {f : Str} : ∀ {vs : List (Str × V)} {ds : List (Str × D)}, vs.map (·.1) = ds.map (·.1) → ds.lookup f = none → vs.lookup f = none
  | [], [], _, _ => rfl
  | [], _ :: _, h, _ => by cases h
  | _ :: _, [], h, _ => by cases h
  | (n, v) :: vs, (n', d) :: ds, h, hd => by
    simp only [List.map_cons, List.cons.injEq] at h
    obtain ⟨rfl, h⟩ := h
    simp only [List.lookup_cons] at hd ⊢
    cases q : f == n with
    | true => rw [q] at hd; cases hd
    | false => rw [q] at hd; exact lookup_no h hd
def gMeth0 (cn m : Str) (mi : Mir) : OD → Option OD
  | .st (.ins c fs) => if c = cn ∧ (fs.lookup m).isNone = true then (match mi [.st (.ins c fs)] with
    | some (r, outs) => if outs.length = 1 then some r else none
    | _ => none) else none
  | _ => none
theorem rg_meth0 : RG1 K (rMeth0 K cn m (spM K 1 mi)) (gMeth0 cn m mi) := by
  intro S H L x ox oz Q w e k
  unfold gMeth0 at e
  split at e
  · rename_i c fs
    split at e
    · rename_i hc
      obtain ⟨rfl, hn⟩ := hc
      split at e
      · rename_i r outs hm
        split at e
        · rename_i hl
          cases e
          cases w.at0.st with
          | @ins ad _ dx vs _ _ a1 a2 a3 _ =>
            refine ⟨ad, dx, vs, rfl, w.le _ _ a1, lookup_no a2 (by simpa using hn), S, L, [.st (.ins c fs)], _, outs, rfl, rfl, hl, w, hm, fun v S' H' e' o' => k _ S' H' e' ?_⟩
            have o2 : Own K S' H' [] ((v, oz) :: L) := Own.sub o' ⟨its outs (([.ref ad] : List V).map some), List.perm_middle.symm⟩
            have r1' : Rp K S' (.ref ad) (.ins c fs) := RpI.mono e' (.ins a1 a2 a3 .nil)
            exact (o2.push r1').perm (.swap _ _ _)
        · cases e
      · cases e
    · cases e
  · cases e
theorem se_m0 {pl : Sem Bool} (C : Cls X.K (He.ga X.K cn)) (c : CalM X.prog X.w X.K X.mg X.base cn m k [q0] mi) (gd : X.A.guards = some []) (hr : Room k X.A) (ha : SO X pin o ta oa)
    (ht : eval (.Call (.Attribute o m apos) [] [] pos) X.env = (do
      let ov ← eval o X.env
      standAt apos.atName
      let (fx, fst) ← holding [ov] (getMethod ov m pl)
      callWith pos fx fst (backTo pos (starEach [] X.env)) (backToKw pos (keywordEach [] X.env))) := by rfl) (hK : X.K = K := by rfl) : SE X pin (.Call (.Attribute o m apos) [] [] pos) (tUn (rMeth0 K cn m (spM K 1 mi)) ta) (fUn (gMeth0 cn m mi) oa) := by
  subst hK
  exact ⟨pe_m0 (pl := pl) ha.pe C c gd hr ht, re_un ha.rd rg_meth0⟩
def tM1 (K : PySem.W.Frag) (cn m : Str) (sp : Sp) (ta tb : TE) : TE := fun σ H Q => ta σ H fun x H1 => ∃ a dx fs, x = .ref a ∧ H1 a = some (.ins (He.ga K cn) dx fs) ∧ fs.lookup m = none ∧ tb σ H1 fun y H2 => sp [x, y] H2 Q E0
theorem pe_m1 {pl : Sem Bool} (he : PE X o ta) (hb0 : PE X b tb) (C : Cls X.K (He.ga X.K cn)) (c : CalM X.prog X.w X.K X.mg X.base cn m k ps mi) (gd : X.A.guards = some []) (hr : Room k X.A)
    (hst : starEach [b] X.env = (false, eval b X.env) :: starEach [] X.env := by rfl)
    (ht : eval (.Call (.Attribute o m apos) [b] [] pos) X.env = (do
      let ov ← eval o X.env
      standAt apos.atName
      let (fx, fst) ← holding [ov] (getMethod ov m pl)
      callWith pos fx fst (backTo pos (starEach [b] X.env)) (backToKw pos (keywordEach [] X.env))) := by rfl) : PE X (.Call (.Attribute o m apos) [b] [] pos) (tM1 X.K cn m (spM X.K ps.length mi) ta tb) := by
  obtain ⟨f, fd, h1, h2, h3, h4, h5⟩ := c.ex
  refine ⟨fun pins s σ H Q I h => PySem.W.methodCall_KW (pl := pl) (thn (he.run pins s σ H _ I h) fun u s1 ⟨x, H1, I1, rx, a, dx, fs, ex, ea, l, q⟩ => ?_) ht⟩
  subst ex
  obtain rfl : u = Value.ref a := rx
  have hA : PA X [b] (tCons tb tNil) := pa_cons hb0 pa_nil hst
  refine getmeth_ok I1 ea C ⟨h1, h2, h3⟩ l ?_
  refine PySem.W.callWith_K (first := [.ref a]) (h₀ := X.base) I.ok.mod.kin h3 (thn (hA.run pos pins s1 σ H1 (fun vs H2 => spM X.K ps.length mi (.ref a :: vs) H2 Q E0) I1 q) fun us s2 ⟨vs, H2, I2, r, q2⟩ => ⟨I2.kIn, ?_⟩) hst rfl
  have hl : (Value.ref a :: us).length = ps.length := by
    have h6 := h5.len _ _ _ _ q2
    have h7 := r.length
    simp only [List.length_cons] at h6 ⊢
    omega
  have hb := h4 s2 (Value.ref a :: us) I2.kIn (by simpa using hl)
  rw [List.append_nil] at hb
  exact wp_g (run_g (us := .ref a :: us) (vs := .ref a :: vs) h5 gd hr pass0 I2 hb (.cons rfl r) q2)
def gMeth1 (cn m : Str) (mi : Mir) : OD → OD → Option OD
  | .st (.ins c fs), .st d => if c = cn ∧ (fs.lookup m).isNone = true then (match mi [.st (.ins c fs), .st d] with
    | some (r, outs) => if outs.length = 2 then some r else none
    | _ => none) else none
  | _, _ => none
theorem re_m1 (ha : RO K pin ta oa) (hb : RO K pin tb ob) : RE K pin (tM1 K cn m (spM K 2 mi) ta tb) (fBin (gMeth1 cn m mi) oa ob) := by
  intro S H T ρ σ F Q od ρ' w e k
  unfold fBin at e
  split at e
  · rename_i xa ρ1 q1
    split at e
    · rename_i xb ρ2 q2
      split at e
      · rename_i oz q3
        cases e
        unfold gMeth1 at q3
        split at q3
        · rename_i c fs d
          split at q3
          · rename_i hc
            obtain ⟨rfl, hn⟩ := hc
            split at q3
            · rename_i r outs hm
              split at q3
              · rename_i hl
                cases q3
                refine ha S H T ρ σ F _ _ ρ1 w q1 fun x S1 H1 e1 w1 rs1 => ?_
                cases (show Rp K S1 x (.ins c fs) from w1.known) with
                | @ins ad _ dx vs _ _ a1 a2 a3 _ =>
                  refine ⟨ad, dx, vs, rfl, w1.le _ _ a1, lookup_no a2 (by simpa using hn), ?_⟩
                  refine hb S1 H1 _ ρ1 σ F _ _ ρ2 w1 q2 fun y S2 H2 e2 w2 rs2 => ?_
                  have ry : Rp K S2 y d := w2.known
                  refine ⟨S2, T ++ (its ρ2 σ ++ F), [.st (.ins c fs), .st d], _, outs, rfl, rfl, hl, w2.own.perm (.swap _ _ _), hm, fun v S3 H3 e3 o3 => ?_⟩
                  have o4 : Own K S3 H3 [] ((v, od) :: (T ++ (its ρ2 σ ++ F))) := Own.sub o3 ⟨its outs (([.ref ad, y] : List V).map some), List.perm_middle.symm⟩
                  have r1' : Rp K S3 (.ref ad) (.ins c fs) := RpI.mono (ex_trans e2 e3) (.ins a1 a2 a3 .nil)
                  have o5 := (o4.push r1').push (RpI.mono e3 ry)
                  have z : Sat K pin S3 H3 ((y, .st d) :: (.ref ad, .st (.ins c fs)) :: (v, od) :: T) ρ2 σ F := w2.with o5
                  exact k v S3 H3 (ex_trans e1 (ex_trans e2 e3)) (rs1 _ _ _ _ _ (rs2 _ _ _ _ _ z))
              · cases q3
            · cases q3
          · cases q3
        · cases q3
      · cases e
    · cases e
  · cases e
theorem se_m1 {q0 q1 : Str} {pl : Sem Bool} (C : Cls X.K (He.ga X.K cn)) (c : CalM X.prog X.w X.K X.mg X.base cn m k [q0, q1] mi) (gd : X.A.guards = some []) (hr : Room k X.A) (ha : SO X pin o ta oa) (hb : SO X pin b tb ob)
    (hst : starEach [b] X.env = (false, eval b X.env) :: starEach [] X.env := by rfl)
    (ht : eval (.Call (.Attribute o m apos) [b] [] pos) X.env = (do
      let ov ← eval o X.env
      standAt apos.atName
      let (fx, fst) ← holding [ov] (getMethod ov m pl)
      callWith pos fx fst (backTo pos (starEach [b] X.env)) (backToKw pos (keywordEach [] X.env))) := by rfl) (hK : X.K = K := by rfl) : SE X pin (.Call (.Attribute o m apos) [b] [] pos) (tM1 K cn m (spM K 2 mi) ta tb) (fBin (gMeth1 cn m mi) oa ob) := by
  subst hK
  exact ⟨pe_m1 (pl := pl) ha.pe hb.pe C c gd hr hst ht, re_m1 ha.rd hb.rd⟩
theorem se_lenO {q0 : Str} (c : CalM X.prog X.w X.K X.mg X.base cn "__len__" k [q0] mi) (gd : X.A.guards = some []) (hr : Room (k + 1) X.A) (hm : X.mg "len" = none) (ha : SO X pin a ta oa) (hg : Gl X "len" := by rfl)
    (hs : starEach [a] X.env = (false, eval a X.env) :: starEach [] X.env := by rfl) (hK : X.K = K := by rfl) : SE X pin (.Call (.Name "len" p) [a] [] pos) (tCB (rLenOwn K cn (spM K 1 mi)) (tCons ta tNil)) (fUn (gLenOwn cn mi) oa) := by
  subst hK
  exact se_b1 (r := rLenOwn X.K cn (spM X.K 1 mi)) (call_lenOwn c gd hr) rg_lenOwn hm PySem.boot_len ha hg (by decide) (by decide) hs
theorem se_fldK {fl : Str} (hc : Cls K (He.ga K cn)) (hn : NoAttr K (He.ga K cn) fl) (ha : SO X pin a ta oa) (hK : X.K = K := by rfl) (hb : attributeBase a fl X.env (eval a X.env) = eval a X.env := by rfl) : SE X pin (.Attribute a fl pos) (tFld K ta fl) (fUn (gFld cn fl) oa) := by
  subst hK
  exact se_fld hc hn ha hb
/-! ### a list of so many is taken apart -/
def gTL (n : Nat) (r : List OD → Rho → Option Rho) : Fg := fun o ρ => match o with
  | .st (.lst ds) => if ds.length = n then r (ds.map .st) ρ else none
  | _ => none
theorem rgt_lst {n : Nat} {gs : TGs} {fr : List OD → Rho → Option Rho} {sl : List Nat} (h : RGs K pin sl gs fr) : RG K pin sl (gLst K n gs) (gTL n fr) := by
  intro S H T ρ σ F v o Q ρ' w e k
  unfold gTL at e
  split at e
  · rename_i ds
    split at e
    · rename_i hn
      cases w.known with
      | lst a b c _ =>
        exact ⟨_, _, rfl, SqL.of (w.le _ _ a), b.trans hn, h S H T ρ σ F _ _ Q ρ' (by simpa using b) (sat_pushes w.tl c) e k⟩
    · cases e
  · cases e
theorem sg_lst {es : List Expr} {k : Nat} {t : TGs} {n : Nat} {fr : List OD → Rho → Option Rho} {sl : List Nat} (hc : X.calm = true) (h : SGs X pin sl es t fr) (hn : (assignEach es X.env).length = n := by rfl) (hst : (assignEach es X.env).findIdx? (·.1) = none := by rfl) (hK : X.K = K := by rfl) : SG X pin sl (.Tuple es k pos) (gLst K n t) (gTL n fr) := by
  subst hK; exact ⟨pg_lst hc h.pe hn hst, rgt_lst h.rd⟩
end
end Qy
set_option Elab.async false
set_option linter.all false
set_option maxRecDepth 100000
namespace Qy
open PySem PySem.Spec PyProof.Rows L2 ClX
section
variable {X : Cx} {pin : List (Option V)} {K : PySem.W.Frag} {b : Expr} {tb : TE} {fj : Fe} {pos p : Pos}
/-- x[e] where e speaks of x too: x is looked at when e is known -/
def fIxV (i : Nat) (f : Fe) : Fe := fun ρ => match ρ[i]? with
  | some (some _) => (match f ρ with
    | some (oj, ρ1) => (match fPeek i ρ1 with
      | some (oa, ρ2) => (match gIx oa oj with
        | some oz => some (oz, (fP i).2 oa ρ2)
        | none => none)
      | none => none)
    | none => none)
  | _ => none
theorem re_ixV {i : Nat} (hb : RE K pin tb fj) : RE K pin (tOp (rIx K) (tVar i) tb) (fIxV i fj) := by
  intro S H T ρ σ F Q od ρ' w e k
  unfold fIxV at e
  split at e
  · rename_i o0 h0
    obtain ⟨v, hv, _⟩ := w.take h0
    split at e
    · rename_i oj ρ1 q1
      split at e
      · rename_i oa ρ2 q2
        split at e
        · rename_i oz q3
          cases e
          refine ⟨v, hv, hb S H T ρ σ F _ oj ρ1 w q1 fun y S2 H2 e2 w2 => ?_⟩
          have main : tVar i σ H2 (fun x H3 => rIx K x y H3 Q) := ro_var i S2 H2 _ ρ1 σ F _ oa ρ2 w2 q2 fun x S3 H3 e3 w3 rs3 => by
            refine rg_ix S3 H3 (T ++ (its ρ2 σ ++ F)) x y oa oj od Q (w3.own.perm (.swap _ _ _)) q3 fun v' S4 H4 e4 o4 => ?_
            have o5 : Own K S4 H4 [] ((x, oa) :: (v', od) :: (T ++ (its ρ2 σ ++ F))) := Own.sub o4 ⟨[(y, oj)], (List.Perm.swap _ _ _).trans (.cons _ (.swap _ _ _))⟩
            have z : Sat K pin S4 H4 ((x, oa) :: (v', od) :: T) ρ2 σ F := w3.with o5
            exact k v' S4 H4 (ex_trans e2 (ex_trans e3 e4)) (rs3 _ _ _ _ _ z)
          obtain ⟨v2, hv2, q⟩ := main
          rw [hv] at hv2
          cases hv2
          exact q
        · cases e
      · cases e
    · cases e
  · cases e
theorem se_ixV (i : Nat) {x : Str} (hb : SE X pin b tb fj) (hN : X.N[i]? = some x := by rfl) (hv : Vis X.env.scope x := by first | exact Or.inl rfl | exact Or.inr (Or.inl rfl) | exact Or.inr (Or.inr rfl)) (hd : (x == ("__debug__" : Str)) = false := by decide)
    (hcd : (x == ("__classdict__" : Str)) = false := by decide) (hs : PlainIx b := by exact fun _ _ => rfl) (hK : X.K = K := by rfl) : SE X pin (.Subscript (.Name x p) b pos) (tOp (rIx K) (tVar i) tb) (fIxV i fj) := by
  subst hK
  exact ⟨pe_ix ix_seq (pe_var hN hv hd hcd) hb.pe hs, re_ixV hb.rd⟩
end
end Qy
set_option Elab.async false
set_option linter.all false
set_option maxRecDepth 100000
namespace Qy
open PySem PySem.Spec PyProof.Rows L2 ClX
section
variable {X : Cx} {pin : List (Option V)} {K : PySem.W.Frag}
/-! ### is None, is not None -/
def nonD : D → Option Bool
  | .non => some true
  | .raw _ => none
  | .kt _ => none
  | .scr _ => none
  | _ => some false
def gIsN (neg : Bool) : OD → OD → Option OD := fun a b => match b, a.rd.bind nonD with
  | .st .non, some t => some (.st (.bl (t != neg)))
  | _, _ => none
theorem At.non {S H : Hp} {x : V} {o : OD} {d : D} {t : Bool} (h : At K S H x o) (le : Ex S H) (r : o.rd = some d) (hn : nonD d = some t) : decide (x = .non) = t := by
  cases d with
  | lst ds => cases hn; obtain ⟨a, vs, rfl, _⟩ := h.lst le r; simp
  | tup ds => cases hn; obtain ⟨a, vs, rfl, _⟩ := h.tup le r; simp
  | dK ds => cases hn; obtain ⟨a, vs, rfl, _⟩ := h.dK le r; simp
  | dT ds => cases hn; obtain ⟨a, vs, rfl, _⟩ := h.dT le r; simp
  | dF ds => cases hn; obtain ⟨a, od, vs, rfl, _⟩ := h.dF le r; simp
  | non => cases hn; cases h.plain r (by simp) (by simp) (by simp); simp
  | bl b => cases hn; cases h.plain r (by simp) (by simp) (by simp); simp
  | int i => cases hn; cases h.plain r (by simp) (by simp) (by simp); simp
  | str z => cases hn; cases h.plain r (by simp) (by simp) (by simp); simp
  | ins _ _ => cases hn; cases h.plain r (by simp) (by simp) (by simp); simp
  | raw _ => cases hn
  | scr _ => cases hn
  | kt _ => cases hn
def rNotNQ : R2 := fun x y H Q => y = .non ∧ Q (.bl (!decide (x = .non))) H
theorem rg_notN : RG2 K rNotNQ (gIsN true) := by
  intro S H L x y ox oy oz Q w e k
  unfold gIsN at e
  split at e
  · rename_i t ht
    cases e
    obtain ⟨d, hd, hn⟩ := Option.bind_eq_some_iff.mp ht
    have hx := w.at1.non w.le hd hn
    cases w.at0.st
    refine ⟨rfl, ?_⟩
    rw [hx]
    have : (t != true) = !t := by cases t <;> rfl
    rw [← this]
    exact k _ S H (ex_refl S) (w.push (.bl .nil))
  · cases e
def rIsNQ : R2 := fun x y H Q => y = .non ∧ Q (.bl (decide (x = .non))) H
theorem rg_isN : RG2 K rIsNQ (gIsN false) := by
  intro S H L x y ox oy oz Q w e k
  unfold gIsN at e
  split at e
  · rename_i t ht
    cases e
    obtain ⟨d, hd, hn⟩ := Option.bind_eq_some_iff.mp ht
    have hx := w.at1.non w.le hd hn
    cases w.at0.st
    refine ⟨rfl, ?_⟩
    rw [hx]
    have : (t != false) = t := by cases t <;> rfl
    rw [← this]
    exact k _ S H (ex_refl S) (w.push (.bl .nil))
  · cases e
theorem op_isNQ : OpR X (compareOp .Is) rIsNQ := op_isN
theorem op_notNQ : OpR X (compareOp .IsNot) rNotNQ := op_notN
/-! ### is True, is not True, of bools -/
def gIsB (neg : Bool) : OD → OD → Option OD
  | .st (.bl a), .st (.bl b) => some (.st (.bl (decide (a = b) != neg)))
  | _, _ => none
def rIsBQ (neg : Bool) : R2 := fun x y H Q => ∃ a b : Bool, x = .bl a ∧ y = .bl b ∧ Q (.bl (decide (a = b) != neg)) H
theorem rg_isB {neg : Bool} : RG2 K (rIsBQ neg) (gIsB neg) := by
  intro S H L x y ox oy oz Q w e k
  unfold gIsB at e
  split at e
  · rename_i a b
    cases e
    have r1 := w.at1.st
    have r2 := w.at0.st
    cases r1
    cases r2
    exact ⟨a, b, rfl, rfl, k _ S H (ex_refl S) (w.push (.bl .nil))⟩
  · cases e
theorem op_notBQ : OpR X (compareOp .IsNot) (rIsBQ true) := by
  intro pins s σ H x y v u Q I rx ry h
  obtain ⟨a, b, h1, h2, q⟩ := h
  refine op_notBl pins s σ H x y v u Q I rx ry ⟨a, b, h1, h2, ?_⟩
  have : (decide (a = b) != true) = !decide (a = b) := by cases a <;> cases b <;> rfl
  rw [← this]
  exact q
/-! ### d.get(k) -/
def fGet1 (a : Fo) (fk : Fe) : Fe := fun ρ => match a.1 ρ with
  | some (od, ρ1) => (match fk ρ1 with
    | some (.st dk, ρ2) => (match od.rd, keyD dk with
      | some (.dK ds), some k => some (.st ((valA ds k).getD .non), a.2 od ρ2)
      | _, _ => none)
    | _ => none)
  | none => none
theorem re_get1 {ta tb : TE} {oa : Fo} {fk : Fe} (ha : RO K pin ta oa) (hk : RE K pin tb fk) : RE K pin (tDGet1 ta tb) (fGet1 oa fk) := by
  intro S H T ρ σ F Q od ρ' w q k
  unfold fGet1 at q
  split at q
  · rename_i o1 ρ1 q1
    split at q
    · rename_i dk ρ2 q2
      split at q
      · rename_i ds kk hd hkey
        cases q
        refine ha S H T ρ σ F _ o1 ρ1 w q1 fun x S1 H1 e1 w1 rs => ?_
        obtain ⟨ad, ks, rfl, hA, r⟩ := w1.own.at0.dKr w1.le hd
        refine ⟨ad, rfl, .inl ⟨ks, .inl hA⟩, hk S1 H1 _ ρ1 σ F _ _ ρ2 w1 q2 fun y S2 H2 e2 w2 => ?_⟩
        have hy := keyD_rp w2.known hkey
        subst hy
        have o3 : Own K S2 H2 [] ((kV kk, .st dk) :: (.ref ad, o1) :: (T ++ (its ρ2 σ ++ F))) := w2.own
        obtain ⟨ad', ks', he, hA', r'⟩ := (o3.at_ (x := .ref ad) (o := o1) (by simp)).dKr w2.le hd
        cases he
        refine ⟨_, DGet.k hA', ?_⟩
        rcases r'.val kk with ⟨z1, z2⟩ | ⟨v, d2, h1, h2, h3⟩
        · rw [z1]
          rw [z2] at k
          have w4 : Sat K pin S2 H2 ((.ref ad, o1) :: (.non, .st .non) :: T) ρ2 σ F := w2.with (by
            refine Own.sub (o3.push (show Rp K S2 .non .non from .non .nil)) ⟨[(kV kk, .st dk)], ?_⟩
            exact (List.Perm.swap _ _ _).trans (.cons _ (.swap _ _ _)))
          exact k .non S2 H2 (ex_trans e1 e2) (rs _ _ _ _ _ w4)
        · rw [h1]
          rw [h2] at k
          have w4 : Sat K pin S2 H2 ((.ref ad, o1) :: (v, .st d2) :: T) ρ2 σ F := w2.with (by
            refine Own.sub (o3.push h3) ⟨[(kV kk, .st dk)], ?_⟩
            exact (List.Perm.swap _ _ _).trans (.cons _ (.swap _ _ _)))
          exact k v S2 H2 (ex_trans e1 e2) (rs _ _ _ _ _ w4)
      · cases q
    · cases q
  · cases q
theorem se_get1 {a b : Expr} {ta tb : TE} {oa : Fo} {fk : Fe} {apos pos : Pos} (hu : X.A.units + 1 < cLine) (ha : SO X pin a ta oa) (hk : SE X pin b tb fk)
    (h1 : attributeBase a "get" X.env (eval a X.env) = eval a X.env := by rfl)
    (h2 : ((backTo pos (starEach [b] X.env)).all (fun x => !x.1) && (backToKw pos (keywordEach [] X.env)).all (fun x => x.1.isSome)
      && decide (([b] : List Expr).length + ([] : List Keyword).length + (if ([] : List Keyword).isEmpty then 0 else 1) < 30)) = true := by rfl)
    (h3 : (apos.endLine == pos.line) = true := by rfl) (h4 : backTo pos (starEach [b] X.env) = [(false, eval b X.env)] := by rfl) : SE X pin (.Call (.Attribute a "get" apos) [b] [] pos) (tDGet1 ta tb) (fGet1 oa fk) :=
  ⟨pe_dget1 hu ha.pe hk.pe ⟨h1, h2, h3, h4⟩, re_get1 ha.rd hk.rd⟩
end
end Qy
set_option Elab.async false
set_option linter.all false
set_option maxRecDepth 100000
set_option maxHeartbeats 400000
namespace Qy
open PySem PySem.Spec PyProof.Rows L2 ClX
section
variable {X : Cx} {pin : List (Option V)} {K : PySem.W.Frag} {S S' H : Hp} {e a b c : Expr} {t ta tb tc tj : TE} {f fj : Fe} {oa ob : Fo} {pos p apos : Pos} {L T F : List It} {ρ ρ2 : Rho} {σ : L2.St}
/-! ### a dict opened: its cell, its items -/
theorem Own.toCellK {q : Addr} {kvs : List (Key × OD)} (h : Own K S H [] ((.ref q, .oK kvs) :: L)) : ∃ ks, H q = some (.dK ks) ∧ ks.map (·.1) = kvs.map (·.1) ∧ Own K S H [] ((.ref q, .cell q (.dK ks)) :: ((ks.map (·.2)).zip (kvs.map (·.2)) ++ L)) := by
  obtain ⟨le, fp, w, nd, sn, x⟩ := h
  cases w with
  | oK a l c tl => exact ⟨_, a, l, le, _, .cell a (c.append tl), nd, sn, x⟩
theorem Own.ofCellK {q : Addr} {ks : List (Key × V)} {kvs : List (Key × OD)} (h : Own K S H [] ((.ref q, .cell q (.dK ks)) :: ((ks.map (·.2)).zip (kvs.map (·.2)) ++ L))) (hl : ks.map (·.1) = kvs.map (·.1)) : Own K S H [] ((.ref q, .oK kvs) :: L) := by
  obtain ⟨le, fp, w, nd, sn, x⟩ := h
  cases w with
  | cell a tl =>
    obtain ⟨f, g, rfl, h1, h2⟩ := tl.split
    exact ⟨le, _, .oK a hl h1 h2, nd, sn, x⟩
/-- a cell's object is changed -/
theorem Own.cellTo {q : Addr} {o o' : HO} (h : Own K S H [] ((.ref q, .cell q o) :: L)) : Own K S (upd H q o') [] ((.ref q, .cell q o') :: L) := by
  obtain ⟨le, fp, w, nd, sn, x⟩ := h
  cases w with
  | cell a tl =>
    have nd' := List.nodup_cons.mp nd
    exact ⟨ex_upd le (sn q List.mem_cons_self), _, .cell upd_same (tl.mono (ex_refl S) fun b hb => upd_ne fun z => nd'.1 (z ▸ hb)), nd, sn, x⟩
def keyIx (k : Key) : List Key → Option Nat
  | [] => none
  | a :: r => if a = k then some 0 else (keyIx k r).map (· + 1)
theorem keyIx_some {k : Key} : ∀ {ks : List (Key × V)} {j : Nat}, keyIx k (ks.map (·.1)) = some j → ∃ v, ks[j]? = some (k, v) ∧ valV ks k = some v
  | [], j, h => by cases h
  | (a, v) :: r, j, h => by
    simp only [List.map_cons, keyIx] at h
    by_cases e : a = k
    · rw [if_pos e] at h
      cases h
      exact ⟨v, by simp [e], valV_pos e⟩
    · rw [if_neg e] at h
      obtain ⟨j', h1, rfl⟩ := Option.map_eq_some_iff.mp h
      obtain ⟨v', h2, h3⟩ := keyIx_some h1
      exact ⟨v', by simpa using h2, by rw [valV_neg e]; exact h3⟩
theorem keyIx_none {k : Key} : ∀ {ks : List (Key × V)}, keyIx k (ks.map (·.1)) = none → valV ks k = none ∧ (ks.any fun kv => decide (kv.1 = k)) = false
  | [], h => ⟨rfl, rfl⟩
  | (a, v) :: r, h => by
    simp only [List.map_cons, keyIx] at h
    by_cases e : a = k
    · rw [if_pos e] at h; cases h
    · rw [if_neg e] at h
      have h1 := keyIx_none (Option.map_eq_none_iff.mp h)
      exact ⟨by rw [valV_neg e]; exact h1.1, by simp [e]; simpa using h1.2⟩
/-! ### x.setdefault(k, []).append(e) -/
def sdK (kvs : List (Key × OD)) (k : Key) : List (Key × OD) × Nat := match keyIx k (kvs.map (·.1)) with
  | some j => (kvs, j)
  | none => (kvs ++ [(k, .ol [])], kvs.length)
def fSdApp (i : Nat) (fk f : Fe) : Fe := fun ρ => match ρ[i]? with
  | some (some (.oK kvs)) => (match fk (ρ.set i none) with
    | some (.st dk, ρ1) => (match keyD dk with
      | some k => (match (sdK kvs k).1[(sdK kvs k).2]? with
        | some (_, .ol us) => (match f ρ1 with
          | some (o, ρ2) => if kvs.length ≤ big ∧ us.length ≤ big then some (.st .non, ρ2.set i (some (.oK ((sdK kvs k).1.set (sdK kvs k).2 (k, .ol (us ++ [o])))))) else none
          | none => none)
        | _ => none)
      | none => none)
    | _ => none)
  | _ => none
theorem perm_swap3 {x y z : It} {L : List It} : (x :: y :: z :: L).Perm (z :: x :: y :: L) := (List.Perm.cons _ (.swap _ _ _)).trans (.swap _ _ _)
theorem shutK {q : Addr} {ks : List (Key × V)} {kvs : List (Key × OD)} {j : Nat} {k : Key} {v : V} {o : OD} (hk : ks.map (·.1) = kvs.map (·.1)) (hv : ks[j]? = some (k, v)) (h : Own K S H [] ((v, o) :: (.ref q, .cell q (.dK ks)) :: (zRest (ks.map (·.2)) (kvs.map (·.2)) j ++ L))) : Own K S H [] ((.ref q, .oK (kvs.set j (k, o))) :: L) := by
  have hl : ks.length = kvs.length := by simpa using congrArg List.length hk
  have hj : j < kvs.length := by rw [← hl]; exact (List.getElem?_eq_some_iff.mp hv).1
  refine Own.ofCellK (ks := ks) (h.perm ?_) ?_
  · refine .trans (.swap _ _ _) (.cons _ ?_)
    rw [List.map_set]
    refine .trans ?_ ((zip_set2 (os := kvs.map (·.2)) (o := o) (j := j) (v := v) (by simp [hv]) (by simpa using hj)).symm.append_right _)
    exact .of_eq (by simp)
  · rw [List.map_set, hk]
    refine (List.set_getElem_self (as := kvs.map (·.1)) (i := j) (by simpa using hj)).symm.trans ?_
    congr 1
    have h1 : (ks.map (·.1))[j]? = some k := by simp [hv]
    rw [hk] at h1
    exact (List.getElem?_eq_some_iff.mp h1).2
theorem re_sdApp {i : Nat} {tk : TE} {fk : Fe} (hk : RE K pin tk fk) (h : RE K pin t f) : RE K pin (tBM K "list" rAppend (tDSetd (tVar i) tk (tLst tNil)) (tCons t tNil)) (fSdApp i fk f) := by
  intro S H T ρ σ F Q od ρ' w e kont
  unfold fSdApp at e
  split at e
  · rename_i kvs h0
    split at e
    · rename_i dk ρ1 q1
      split at e
      · rename_i k hkey
        split at e
        · rename_i k0 us hsd
          split at e
          · rename_i o ρ2 q2
            split at e
            · rename_i hb
              cases e
              obtain ⟨q, hv, ⟨ks0, hq0⟩, w1⟩ := sat_dict w h0
              obtain ⟨ks, hq, hks, o2⟩ := w1.own.toCellK
              have w2 : Sat K pin S H ((.ref q, .cell q (.dK ks)) :: ((ks.map (·.2)).zip (kvs.map (·.2)) ++ T)) (ρ.set i none) σ F := w1.with (o2.perm (.of_eq (by simp)))
              have hlen : ks.length = kvs.length := by simpa using congrArg List.length hks
              refine ⟨.ref q, hv, q, rfl, .inl ⟨ks, .inl hq⟩, hk S H _ _ σ F _ _ ρ1 w2 q1 fun y S1 H1 e1 w3 => ?_⟩
              have hy := keyD_rp w3.known hkey
              subst hy
              refine ⟨by simp, fun p hp => ?_⟩
              have w4 := w3.tl
              have hq1 : H1 q = some (.dK ks) := (Own.at_ (x := .ref q) (o := .cell q (.dK ks)) w4.own (by simp)).cell.2
              have hpq : q ≠ p := fun z => by rw [← z, hq1] at hp; cases hp
              have o5 : Own K S1 (upd H1 p (.lst [])) [] ((.ref p, .ol []) :: (.ref q, .cell q (.dK ks)) :: ((ks.map (·.2)).zip (kvs.map (·.2)) ++ (T ++ (its ρ1 σ ++ F)))) := by
                have := Own.newL (vs := []) (os := []) (L := (.ref q, .cell q (.dK ks)) :: ((ks.map (·.2)).zip (kvs.map (·.2)) ++ (T ++ (its ρ1 σ ++ F)))) (by simpa using w4.own) rfl hp
                exact this
              have hq2 : (upd H1 p (.lst [])) q = some (.dK ks) := by rw [upd_ne hpq]; exact hq1
              -- what is common: the list v with its place j
              have fin : ∀ (ks' : List (Key × V)) (kvs' : List (Key × OD)) (j : Nat) (v : V) (S2 H2 : Hp), Ex S1 S2 → ks'.map (·.1) = kvs'.map (·.1) → ks'[j]? = some (k, v) → kvs'[j]? = some (k0, .ol us) → sdK kvs k = (kvs', j) → Own K S2 H2 [] ((v, .ol us) :: (.ref q, .cell q (.dK ks')) :: (zRest (ks'.map (·.2)) (kvs'.map (·.2)) j ++ (T ++ (its ρ1 σ ++ F)))) → (v = v) → 
                  (((∃ b ws, v = .ref b ∧ SqL K H2 b ws) ∧ True) ∧ t σ H2 fun y3 H3 => rAppend v [y3] H3 Q) := by
                intro ks' kvs' j v S2 H2 e2 hk' hj1 hj2 hsd' o6 _
                obtain ⟨fp, z⟩ := (Own.at0 o6 : At K S2 H2 v (.ol us))
                have hvr : ∃ b ws, v = .ref b ∧ H2 b = some (.lst ws) := by
                  cases z with
                  | ol a _ _ _ => exact ⟨_, _, rfl, a⟩
                obtain ⟨b, ws, rfl, hb1⟩ := hvr
                refine ⟨⟨⟨b, ws, rfl, SqL.of hb1⟩, trivial⟩, ?_⟩
                have w6 : Sat K pin S2 H2 ((.ref b, .ol us) :: (.ref q, .cell q (.dK ks')) :: (zRest (ks'.map (·.2)) (kvs'.map (·.2)) j ++ T)) ρ1 σ F := w4.with (o6.perm (.of_eq (by simp)))
                refine h S2 H2 _ ρ1 σ F _ o ρ2 w6 q2 fun y3 S3 H3 e3 w7 => ?_
                have o7 : Own K S3 H3 [] ((y3, o) :: (.ref b, .ol us) :: (.ref q, .cell q (.dK ks')) :: (zRest (ks'.map (·.2)) (kvs'.map (·.2)) j ++ (T ++ (its ρ2 σ ++ F)))) := w7.own.perm (.of_eq (by simp))
                obtain ⟨ws', hp', hl', o8⟩ := o7.app
                refine ⟨b, ws', y3, rfl, rfl, hp', by rw [hl']; exact big_lt hb.2, kont _ S3 _ (ex_trans e1 (ex_trans e2 e3)) ?_⟩
                have o9 := shutK hk' hj1 o8
                have w9 : Sat K pin S3 (upd H3 b (.lst (ws' ++ [y3]))) ((.ref q, .oK (kvs'.set j (k, .ol (us ++ [o])))) :: T) ρ2 σ F := w7.with o9
                have w10 := w9.back hv
                rw [hsd']
                exact w10.push (.non .nil)
              refine ⟨ks, k, hq2, rfl, by rw [hlen]; exact big_lt hb.1, fun v hvv => ?_, fun hvn => ?_⟩
              · cases hix : keyIx k (ks.map (·.1)) with
                | none => rw [(keyIx_none hix).1] at hvv; cases hvv
                | some j =>
                  obtain ⟨v', hj1, hj2⟩ := keyIx_some hix
                  rw [hvv] at hj2
                  cases hj2
                  have hsd' : sdK kvs k = (kvs, j) := by unfold sdK; rw [← hks, hix]
                  rw [hsd'] at hsd
                  obtain ⟨⟨⟨b, ws, hbv, hsq⟩, _⟩, hh⟩ := fin ks kvs j v S1 _ (ex_refl S1) hks hj1 hsd hsd' (by
                    refine (o5.tl).perm ?_
                    refine .trans (.cons _ ((zip_pick (j := j) (v := v) (o := .ol us) (by simp [hj1]) (by simp [hsd])).append_right _)) ?_
                    simp only [List.cons_append]
                    exact .swap _ _ _) rfl
                  subst hbv
                  exact ⟨.inl ⟨rfl, ws, hsq⟩, hh⟩
              · cases hix : keyIx k (ks.map (·.1)) with
                | some j =>
                  obtain ⟨v', hj1, hj2⟩ := keyIx_some hix
                  rw [hvn] at hj2
                  cases hj2
                | none =>
                  have hsd' : sdK kvs k = (kvs ++ [(k, .ol [])], kvs.length) := by unfold sdK; rw [← hks, hix]
                  rw [hsd'] at hsd
                  have hus : us = [] := by simp at hsd; exact hsd.2
                  subst hus
                  have hput : putK ks k (.ref p) = ks ++ [(k, .ref p)] := by
                    unfold putK
                    rw [(keyIx_none hix).2]
                    simp
                  rw [hput]
                  obtain ⟨⟨⟨b, ws, hbv, hsq⟩, _⟩, hh⟩ := fin (ks ++ [(k, .ref p)]) (kvs ++ [(k, .ol [])]) kvs.length (.ref p) S1 (upd (upd H1 p (.lst [])) q (.dK (ks ++ [(k, .ref p)]))) (ex_refl S1) (by simp [hks]) (by rw [← hlen]; simp) hsd hsd' (by
                    have o6 := (o5.perm (.swap _ _ _)).cellTo (o' := .dK (ks ++ [(k, .ref p)]))
                    refine o6.perm (.trans (.swap _ _ _) (.cons _ (.cons _ (.append_right _ ?_))))
                    have e1 : zRest ((ks ++ [(k, V.ref p)]).map (·.2)) ((kvs ++ [(k, OD.ol [])]).map (·.2)) kvs.length = (ks.map (·.2)).zip (kvs.map (·.2)) := by
                      unfold zRest
                      have hz : ((ks ++ [(k, V.ref p)]).map (·.2)).zip ((kvs ++ [(k, OD.ol [])]).map (·.2)) = (ks.map (·.2)).zip (kvs.map (·.2)) ++ [(.ref p, .ol [])] := by
                        rw [List.map_append, List.map_append]
                        exact List.zip_append (by simp [hlen])
                      rw [hz]
                      have hzl : ((ks.map (·.2)).zip (kvs.map (·.2))).length = kvs.length := by simp [hlen]
                      rw [← hzl, List.take_left', List.drop_eq_nil_of_le] <;> simp
                    rw [e1]) rfl
                  cases hbv
                  exact ⟨.inl ⟨rfl, ws, hsq⟩, hh⟩
            · cases e
          · cases e
        · cases e
      · cases e
    · cases e
  · cases e
end
end Qy
set_option Elab.async false
set_option linter.all false
set_option maxRecDepth 100000
set_option maxHeartbeats 400000
namespace Qy
open PySem PySem.Spec PyProof.Rows L2 ClX
section
variable {X : Cx} {pin : List (Option V)} {K : PySem.W.Frag} {S S' H : Hp} {e a b c : Expr} {t ta tb tc tj : TE} {f fj : Fe} {oa ob : Fo} {pos p apos : Pos} {L T F : List It} {ρ ρ2 : Rho} {σ : L2.St}
theorem se_sdApp {i : Nat} {x : Str} {j : Expr} {p2 lp ip ap2 : Pos} {tk : TE} {fk : Fe} (hk : SE X pin j tk fk) (h : SE X pin e t f) (hN : X.N[i]? = some x := by rfl) (hv : Vis X.env.scope x := by first | exact Or.inl rfl | exact Or.inr (Or.inl rfl) | exact Or.inr (Or.inr rfl)) (hd : (x == ("__debug__" : Str)) = false := by decide) (hcd : (x == ("__classdict__" : Str)) = false := by decide)
    (g1 : attributeBase (.Name x p2) "setdefault" X.env (eval (.Name x p2) X.env) = eval (.Name x p2) X.env := by rfl)
    (g2 : ((backTo ip (starEach [j, .List [] lp] X.env)).all (fun x => !x.1) && (backToKw ip (keywordEach [] X.env)).all (fun x => x.1.isSome)
      && decide (([j, .List [] lp] : List Expr).length + ([] : List Keyword).length + (if ([] : List Keyword).isEmpty then 0 else 1) < 30)) = true := by rfl)
    (g3 : (ap2.endLine == ip.line) = true := by rfl) (g4 : backTo ip (starEach [j, .List [] lp] X.env) = [(false, eval j X.env), (false, eval (.List [] lp) X.env)] := by rfl)
    (hbase : attributeBase (.Call (.Attribute (.Name x p2) "setdefault" ap2) [j, .List [] lp] [] ip) "append" X.env (eval (.Call (.Attribute (.Name x p2) "setdefault" ap2) [j, .List [] lp] [] ip) X.env) = eval (.Call (.Attribute (.Name x p2) "setdefault" ap2) [j, .List [] lp] [] ip) X.env := by rfl)
    (hfew : ((backTo pos (starEach [e] X.env)).all (fun x => !x.1) && (backToKw pos (keywordEach [] X.env)).all (fun x => x.1.isSome) && decide (([e] : List Expr).length + ([] : List Keyword).length + (if ([] : List Keyword).isEmpty then 0 else 1) < 30)) = true := by rfl)
    (hline : (apos.endLine == pos.line) = true := by rfl) (hs : starEach [e] X.env = (false, eval e X.env) :: starEach [] X.env := by rfl) : SE X pin (.Call (.Attribute (.Call (.Attribute (.Name x p2) "setdefault" ap2) [j, .List [] lp] [] ip) "append" apos) [e] [] pos) (tBM X.K "list" rAppend (tDSetd (tVar i) tk (tLst tNil)) (tCons t tNil)) (fSdApp i fk f) :=
  ⟨pe_bm PySem.F.plainAttrs_list PySem.F.slot_list_append PySem.F.type_list_append mt_append (pe_dsetd (pe_var hN hv hd hcd) hk.pe (pe_lst pa_nil) ⟨g1, g2, g3, g4⟩) (pa_cons h.pe pa_nil hs) hbase hfew hline hs rfl, re_sdApp hk.rd h.rd⟩
/-! ### {k: v for .. in x.items()}, x a dict in a slot, which is given up -/
def kDd : Key → D
  | .inl i => .int i
  | .inr s => .str s
theorem kDd_rp (k : Key) : Rp K S (kV k) (kDd k) := by
  cases k with
  | inl i => exact .int .nil
  | inr s => exact .str .nil
def itemsD (ds : List (Key × D)) : List D := ds.map fun p => .tup [kDd p.1, p.2]
def fDcI (own : List Nat) (i : Nat) (tg : Fg) (tt : Ft) (fk fv : Fe) : Fe := fun ρ => match ρ[i]? with
  | some (some (.oK kvs)) => (match compD own tg tt fk fv (itemsD (valK kvs)) (wipeR (ρ.set i none) own) [] with
    | none => none
    | some (acc, ρ2) => some (.oK (stD acc), wipeR ρ2 own))
  | _ => none
theorem rpk_at : ∀ {ks : List (Key × V)} {ds : List (Key × D)}, RpK K S ks ds → ∀ {i : Nat} {k : Key} {v : V} {kd : Key × D}, ks[i]? = some (k, v) → ds[i]? = some kd → k = kd.1 ∧ Rp K S v kd.2
  | [], [], _, i, k, v, kd, h, _ => by simp at h
  | p :: ks, q :: ds, ⟨h1, h2, h3⟩, 0, k, v, kd, h, h' => by
    simp at h h'
    subst h
    subst h'
    exact ⟨h1, h2⟩
  | p :: ks, q :: ds, ⟨h1, h2, h3⟩, i + 1, k, v, kd, h, h' => rpk_at h3 (i := i) (by simpa using h) (by simpa using h')
theorem re_dcI {i : Nat} {g : TG} {fg : Fg} {sl own : List Nat} {tt : TT} {ft : Ft} {tk tv : TE} {fk fv : Fe} (hg : RG K pin sl g fg) (ht : RT K pin tt ft) (hk : RE K pin tk fk) (he : RE K pin tv fv) (hs : ∀ i ∈ sl, i ∈ own) (hp : ∀ i ∈ own, NoPin pin i) :
    RE K pin (tLockE (tDc (iItems (tVar i)) g tt tk tv own)) (fDcI own i fg ft fk fv) := by
  intro S H T ρ σ F Q od ρ' w e k
  unfold fDcI at e
  split at e
  · rename_i kvs h0
    split at e
    · cases e
    · rename_i acc ρ2 q2
      cases e
      obtain ⟨q, hv, _, w1⟩ := sat_dict w h0
      obtain ⟨ks, hq, hks, o2⟩ := w1.own.toCellK
      obtain ⟨S', x, rp, o3⟩ := Own.freeze (r := (ks.map (·.2)).zip (kvs.map (·.2))) (l := (.ref q, .cell q (.dK ks)) :: (T ++ (its (ρ.set i none) σ ++ F))) (o2.perm List.perm_middle.symm)
      rw [vals_zip] at rp
      have rk : RpK K S' ks (valK kvs) := rpk_iff.mpr ⟨by rw [hks, valK_map]; simp, by rw [valK_map]; rw [List.map_map] at rp ⊢; exact rp⟩
      have hlen : ks.length = (itemsD (valK kvs)).length := by rw [rk.len]; simp [itemsD]
      generalize hds : itemsD (valK kvs) = ds at q2 hlen
      refine ⟨q, .dK ks, hq, trivial, fun ob => ?_⟩
      have w' : Sat K pin S' (upd H q (.frz ob (.dK ks))) ([(.ref q, .cell q (.frz ob (.dK ks)))] ++ T) (ρ.set i none) σ F := w1.with (by simpa using o3.cellTo)
      refine ⟨.ref q, hv, q, ob, ks, rfl, upd_same, fun D hD => ?_⟩
      have W : Walk (Iti q ob ks) ds.length (fun H => H q = some (.frz ob (.dK ks))) (YPair (fun i => ks[i]?.map fun kv => kV kv.1) (fun i => ks[i]?.map Prod.snd)) := hlen ▸ walk_items
      have hG : ∀ S2 H2 L, Ex S' S2 → Own K S2 H2 [] L → (∀ x ∈ [((.ref q : V), OD.cell q (.frz ob (.dK ks)))], x ∈ L) → H2 q = some (.frz ob (.dK ks)) := fun S2 H2 L e2 o2 hm => (Own.at_ (x := .ref q) (o := .cell q (.frz ob (.dK ks))) o2 (hm _ (by simp))).cell.2
      have hY : ∀ i d H2 x H3 S2 L, ds[i]? = some d → Ex S' S2 → Own K S2 H2 [] L → YPair (fun i => ks[i]?.map fun kv => kV kv.1) (fun i => ks[i]?.map Prod.snd) i H2 x H3 → ∃ S3, Ex S2 S3 ∧ Own K S3 H3 [] ((x, .st d) :: L) := by
        intro i d H2 x H3 S2 L hd e2 o4 hy
        obtain ⟨T0, x0, y0, rfl, hT, rfl, hx0, hy0⟩ := hy
        dsimp only at hx0 hy0
        cases hki : ks[i]? with
        | none => rw [hki] at hx0; cases hx0
        | some kv =>
          obtain ⟨k0, v0⟩ := kv
          rw [hki] at hx0 hy0
          cases hx0
          cases hy0
          rw [← hds] at hd
          unfold itemsD at hd
          rw [List.getElem?_map] at hd
          obtain ⟨kd, hkd, rfl⟩ := Option.map_eq_some_iff.mp hd
          obtain ⟨hk0, hr0⟩ := rpk_at rk hki hkd
          subst hk0
          exact ⟨_, Own.newT o4 (.cons (kDd_rp kd.1) (.cons (hr0.mono e2) .nil)) rfl hT⟩
      have pin0 := w'.pin
      refine ⟨fun i m H => m = ds.length - i ∧ i ≤ ds.length ∧ ∃ S2 ρ3 ac, Ex S' S2 ∧ Sat K pin S2 H ((.ref D, .oK (stD ac)) :: ([(.ref q, .cell q (.frz ob (.dK ks)))] ++ T)) ρ3 (wipe σ own) F ∧ compD own fg ft fk fv (ds.drop i) ρ3 ac = some (acc, ρ2), ⟨ds.length, by simp, Nat.zero_le _, S', wipeR (ρ.set i none) own, [], ex_refl S', ?_, by simpa using q2⟩, ?_⟩
      · have w1 := w'.into (vs := own) hp
        exact w1.with (Own.newK (ks := []) (ds := []) w1.own trivial hD)
      · rintro i m H2 ⟨rfl, hi', S2, ρ3, ac, e2, w2, l2⟩
        have hGH : H2 q = some (.frz ob (.dK ks)) := hG S2 H2 _ e2 w2.own fun z hz => by
          simp only [List.cons_append, List.mem_cons, List.mem_append]
          exact .inr (.inl (by simpa using hz))
        by_cases hlt : i < ds.length
        · refine .inr ⟨W.goes i H2 hlt hGH, fun H3 => ∃ S3 ρ4 ac', Ex S' S3 ∧ Sat K pin S3 H3 ((.ref D, .oK (stD ac')) :: ([(.ref q, .cell q (.frz ob (.dK ks)))] ++ T)) ρ4 (wipe σ own) F ∧ compD own fg ft fk fv (ds.drop (i + 1)) ρ4 ac' = some (acc, ρ2), fun H' z => ⟨ds.length - (i + 1), by omega, rfl, hlt, z⟩, fun y H3 hy' => ?_⟩
          have hy := W.yields i H2 y H3 hlt hGH hy'
          obtain ⟨d, hd⟩ : ∃ d, ds[i]? = some d := ⟨ds[i], by simp [hlt]⟩
          have hdr : ds.drop i = d :: ds.drop (i + 1) := by
            rw [List.drop_eq_getElem_cons hlt]
            congr 1
            have := List.getElem?_eq_getElem hlt
            rw [this] at hd
            exact Option.some.inj hd
          rw [hdr] at l2
          obtain ⟨S3, e3, o3⟩ := hY i d H2 y H3 S2 _ hd e2 w2.own hy
          have w3 : Sat K pin S3 H3 ((y, .st d) :: (.ref D, .oK (stD ac)) :: ([(.ref q, .cell q (.frz ob (.dK ks)))] ++ T)) ρ3 (wipe σ own) F := w2.with o3
          unfold compD at l2
          split at l2
          · cases l2
          · rename_i ρ4 q4
            refine hg S3 H3 _ ρ3 (wipe σ own) F y (.st d) _ ρ4 w3 q4 fun S4 H4 σ4 e4 on w4 => ?_
            have hw := wipe_only on hs
            refine ⟨hw, ?_⟩
            have e04 : Ex S' S4 := ex_trans e2 (ex_trans e3 e4)
            split at l2
            · cases l2
            · rename_i ρ5 q5
              refine ht S4 H4 _ ρ4 σ4 F _ _ _ w4 q5 fun S5 H5 e5 w5 => ?_
              exact ⟨S5, wipeR ρ5 own, ac, ex_trans e04 e5, w5.outof hw hp, l2⟩
            · rename_i ρ5 q5
              refine ht S4 H4 _ ρ4 σ4 F _ _ _ w4 q5 fun S5 H5 e5 w5 => ?_
              show tk σ4 H5 _
              split at l2
              · rename_i dk ρ6 q6
                split at l2
                · rename_i dv ρ7 q7
                  split at l2
                  · rename_i kk hkey
                    split at l2
                    · rename_i hb
                      refine hk S5 H5 _ ρ5 σ4 F _ _ _ w5 q6 fun u S6 H6 e6 w6 => ?_
                      refine he S6 H6 _ ρ6 σ4 F _ _ _ w6 q7 fun v S7 H7 e7 w7 => ?_
                      have hu : u = kV kk := keyD_rp (w7.tl).known hkey
                      subst hu
                      have w8 : Sat K pin S7 H7 ((.ref D, .oK (stD ac)) :: ([(.ref q, .cell q (.frz ob (.dK ks)))] ++ T)) ρ7 σ4 F := w7.tl.tl
                      obtain ⟨ks', h1, h2, h3⟩ := Own.putKD (k := kk) w8.own w7.known
                      refine ⟨ks', kk, rfl, h1, by rw [h2]; exact big_lt hb, S7, wipeR ρ7 own, putA ac kk dv, ex_trans e04 (ex_trans e5 (ex_trans e6 e7)), ?_, l2⟩
                      exact (w8.with h3).outof hw hp
                    · cases l2
                  · cases l2
                · cases l2
              · cases l2
        · have hie : i = ds.length := by omega
          subst hie
          rw [List.drop_length] at l2
          cases l2
          refine .inl ⟨W.stops H2 hGH, ?_⟩
          have w3 : Sat K pin S2 H2 ((.ref D, .oK (stD acc)) :: ([(.ref q, .cell q (.frz ob (.dK ks)))] ++ T)) (wipeR ρ2 own) (wipe σ own) F := by
            have := w2.into (vs := own) hp
            have hh : wipe (wipe σ own) own = wipe σ own := wipe_only (sl := []) (Only.refl _) (fun _ z => nomatch z)
            rw [hh] at this
            exact this
          have w4 := w3.leave pin0
          refine ⟨hGH, ?_⟩
          have o5 : Own K S2 H2 [] ((.ref q, .cell q (.frz ob (.dK ks))) :: (.ref D, .oK (stD acc)) :: (T ++ (its (wipeR ρ2 own) σ ++ F))) := w4.own.perm (by simpa using List.Perm.swap _ _ _)
          have w5 : Sat K pin S2 (upd H2 q (.dK ks)) ((.ref D, .oK (stD acc)) :: T) (wipeR ρ2 own) σ F := w4.with (o5.cellTo (o' := .dK ks)).tl
          exact k _ S2 _ (ex_trans x e2) w5
  · cases e
theorem se_dcI {i : Nat} {x : Str} {kx vx : Expr} {elts : List Expr} {tk0 : Nat} {tpos p2 : Pos} {ifs : List Expr} {scope : Scope} {own : List (Str × Nat)} {g : TG} {fg : Fg} {sl : List Nat} {tt : TT} {ft : Ft} {tk tv : TE} {fk fv : Fe} (hc : X.calm = true) (hN : X.N.Nodup) (ok : BlkOk X.N X.env.scope scope own)
    (hp : ∀ i ∈ own.map (·.2), NoPin pin i) (hsl : ∀ i ∈ sl, i ∈ own.map (·.2))
    (hg : ∀ (s : Shared) (H : Hp) (C : Addr) (cl : List (Str × Addr)) (fp : List Addr), SG (X.blk s H scope (compEnvC scope cl C X.env) fp) pin sl (.Tuple elts tk0 tpos) g fg) (ht : ∀ (s : Shared) (H : Hp) (C : Addr) (cl : List (Str × Addr)) (fp : List Addr), STL (X.blk s H scope (compEnvC scope cl C X.env) fp) pin ifs tt ft)
    (hk : ∀ (s : Shared) (H : Hp) (C : Addr) (cl : List (Str × Addr)) (fp : List Addr), SE (X.blk s H scope (compEnvC scope cl C X.env) fp) pin kx tk fk) (he : ∀ (s : Shared) (H : Hp) (C : Addr) (cl : List (Str × Addr)) (fp : List Addr), SE (X.blk s H scope (compEnvC scope cl C X.env) fp) pin vx tv fv)
    (hNi : X.N[i]? = some x := by rfl) (hv : Vis X.env.scope x := by first | exact Or.inl rfl | exact Or.inr (Or.inl rfl) | exact Or.inr (Or.inr rfl)) (hd : (x == ("__debug__" : Str)) = false := by decide) (hcd : (x == ("__classdict__" : Str)) = false := by decide)
    (hbase : attributeBase (.Name x p2) "items" X.env (eval (.Name x p2) X.env) = eval (.Name x p2) X.env := by rfl) (hline : (apos.endLine == p.line) = true := by rfl)
    (hs : ∀ z, foldedSetIterable (.Call (.Attribute (.Name x p2) "items" apos) [] [] p) X.env z = pure z := by intro _; rfl) :
    SE X pin (.DictComp kx vx [⟨.Tuple elts tk0 tpos, .Call (.Attribute (.Name x p2) "items" apos) [] [] p, ifs, 0⟩] scope pos) (tLockE (tDc (iItems (tVar i)) g tt tk tv (own.map (·.2)))) (fDcI (own.map (·.2)) i fg ft fk fv) :=
  ⟨pe_lock (pe_dc hc hN (pi_items (pe_var hNi hv hd hcd) hbase hline) ok (fun s H C cl fp => (hg s H C cl fp).pe) (fun s H C cl fp => (ht s H C cl fp).pe) (fun s H C cl fp => (hk s H C cl fp).pe) (fun s H C cl fp => (he s H C cl fp).pe) hs),
   re_dcI (hg X.s_0 X.H_0 0 [] []).rd (ht X.s_0 X.H_0 0 [] []).rd (hk X.s_0 X.H_0 0 [] []).rd (he X.s_0 X.H_0 0 [] []).rd hsl hp⟩
end
end Qy
set_option Elab.async false
set_option linter.all false
set_option maxRecDepth 100000
set_option maxHeartbeats 400000
/-! an expression that only looks: its plain outcome is kept, the slots are as they were -/
namespace Qy
open PySem PySem.Spec PyProof.Rows L2 ClX
section
variable {X : Cx} {pin : List (Option V)} {K : PySem.W.Frag} {S S' H : Hp} {e : Expr} {t : TE} {f : Fe} {L T F : List It} {ρ ρ2 : Rho} {σ : L2.St}
def frzR (ρ : Rho) : Rho := ρ.map (Option.map fun o => .st o.val)
def plainD : D → Bool
  | .non => true
  | .bl _ => true
  | .int _ => true
  | .str _ => true
  | _ => false
def fRo (f : Fe) : Fe := fun ρ => match f (frzR ρ) with
  | some (.st d, _) => if plainD d = true then some (.st d, ρ) else none
  | _ => none
theorem plainD_rp {S S' : Hp} {v : V} {d : D} (h : plainD d = true) (r : Rp K S v d) : Rp K S' v d := by
  cases r with
  | non _ => exact .non .nil
  | bl _ => exact .bl .nil
  | int _ => exact .int .nil
  | str _ => exact .str .nil
  | raw _ => cases h
  | scr _ _ => cases h
  | lst _ _ _ _ => cases h
  | tup _ _ _ _ => cases h
  | kt _ _ _ _ => cases h
  | dK _ _ _ _ => cases h
  | dT _ _ _ _ => cases h
  | dF _ _ _ _ => cases h
  | ins _ _ _ _ => cases h
theorem its_frz : ∀ (ρ : Rho) (σ : L2.St), its (frzR ρ) σ = (its ρ σ).map fun p => (p.1, .st p.2.val)
  | [], _ => by simp [frzR, its]
  | none :: ρ, [] => by simp [frzR, its]
  | some _ :: ρ, [] => by simp [frzR, its]
  | none :: ρ, b :: σ => by simpa [frzR, its] using its_frz ρ σ
  | some o :: ρ, none :: σ => by simpa [frzR, its] using its_frz ρ σ
  | some o :: ρ, some v :: σ => by
    have := its_frz ρ σ
    simp only [frzR] at this
    simp [frzR, its, this]
theorem owi_frz : ∀ {l : List It}, RpI K S (vals l) → OwI K S H (l.map fun p => (p.1, .st p.2.val)) []
  | [], _ => .nil
  | (v, o) :: r, h => by
    simp only [vals, List.map_cons] at h
    exact .st h.head (owi_frz h.tail)
def cellsOf (H : Hp) : List Addr → List It
  | [] => []
  | a :: r => match H a with
    | some o => (.ref a, .cell a o) :: cellsOf H r
    | none => cellsOf H r
theorem owi_cells : ∀ {l : List Addr}, (∀ a ∈ l, ∃ o, H a = some o) → OwI K S H (cellsOf H l) l
  | [], _ => .nil
  | a :: r, h => by
    obtain ⟨o, ho⟩ := h a List.mem_cons_self
    unfold cellsOf
    rw [ho]
    exact .cell ho (owi_cells fun b hb => h b (List.mem_cons_of_mem _ hb))
theorem mem_cells : ∀ {l : List Addr} {a : Addr} {o : HO}, a ∈ l → H a = some o → ((.ref a, .cell a o) : It) ∈ cellsOf H l
  | b :: r, a, o, hm, ho => by
    unfold cellsOf
    rcases List.mem_cons.mp hm with rfl | hm
    · rw [ho]; exact List.mem_cons_self
    · have := mem_cells hm ho
      split
      · exact List.mem_cons_of_mem _ this
      · exact this
theorem RE.ro (h : RE K pin t f) : RE K pin t (fRo f) := by
  intro S H T ρ σ F Q od ρ' w e k
  unfold fRo at e
  split at e
  · rename_i d ρ2 q
    split at e
    · rename_i hpl
      cases e
      obtain ⟨le, fp, ow, nd, sn, hx⟩ := id w.own
      obtain ⟨f1, g1, rfl, hT, hR⟩ := ow.split
      obtain ⟨f2, f3, rfl, hI, hF⟩ := hR.split
      obtain ⟨n1, n2, n3⟩ := List.nodup_append.mp nd
      obtain ⟨n4, n5, n6⟩ := List.nodup_append.mp n2
      -- the heap that is stable meanwhile
      have ex1 : Ex S (fun a => if a ∈ f2 then H a else S a) := fun a o z => by
        by_cases m : a ∈ f2
        · rw [sn a (List.mem_append_right _ (List.mem_append_left _ m))] at z; cases z
        · simp only [if_neg m]; exact z
      have ex2 : Ex (fun a => if a ∈ f2 then H a else S a) H := fun a o z => by
        by_cases m : a ∈ f2
        · simp only [if_pos m] at z; exact z
        · simp only [if_neg m] at z; exact le a o z
      have rp := hI.frozen ex1 (fun a ha => if_pos ha)
      have th : ∀ a ∈ f1 ++ f3, ∃ o, H a = some o := fun a ha => ow.there a (by
        rcases List.mem_append.mp ha with z | z
        · exact List.mem_append_left _ z
        · exact List.mem_append_right _ (List.mem_append_right _ z))
      have w1 : Sat K pin (fun a => if a ∈ f2 then H a else S a) H [] (frzR ρ) σ (cellsOf H (f1 ++ f3)) := by
        refine ⟨⟨ex2, f1 ++ f3, ?_, ?_, ?_, fun _ z => nomatch z⟩, fun i o hi => ?_, by simp [frzR]; exact w.len, w.pin⟩
        · rw [List.nil_append, its_frz]
          exact (owi_frz rp).append (owi_cells th)
        · rw [List.nodup_append]
          exact ⟨n1, n5, fun a ha b hb => n3 a ha b (List.mem_append_right _ hb)⟩
        · intro a ha
          have m : a ∉ f2 := fun z => by
            rcases List.mem_append.mp ha with y | y
            · exact n3 a y a (List.mem_append_left _ z) rfl
            · exact n6 a z a y rfl
          simp only [if_neg m]
          rcases List.mem_append.mp ha with y | y
          · exact sn a (List.mem_append_left _ y)
          · exact sn a (List.mem_append_right _ (List.mem_append_right _ y))
        · unfold frzR at hi
          rw [List.getElem?_map] at hi
          obtain ⟨o', h1, h2⟩ := Option.map_eq_some_iff.mp hi
          cases o' with
          | none => cases h2
          | some o'' => exact w.wf i o'' h1
      refine h _ H [] (frzR ρ) σ (cellsOf H (f1 ++ f3)) Q _ ρ2 w1 q fun v S' H' x w2 => ?_
      have le2 := w2.le
      have keep : ∀ a ∈ f1 ++ (f2 ++ f3), H' a = H a := fun a ha => by
        obtain ⟨o, ho⟩ := ow.there a ha
        rw [ho]
        by_cases m : a ∈ f2
        · exact le2 a o (x a o (by simp only [if_pos m]; exact ho))
        · have m2 : a ∈ f1 ++ f3 := by
            rcases List.mem_append.mp ha with z | z
            · exact List.mem_append_left _ z
            · rcases List.mem_append.mp z with z | z
              · exact absurd z m
              · exact List.mem_append_right _ z
          have := Own.at_ (x := .ref a) (o := .cell a o) w2.own (by
            simp only [List.cons_append, List.mem_cons, List.mem_append]
            exact .inr (.inr (.inr (mem_cells m2 ho))))
          exact this.cell.2
      have w3 : Sat K pin S H' T ρ σ F := w.with ⟨ex_trans ex1 (ex_trans x le2), _, ow.mono (ex_refl S) keep, nd, sn, hx⟩
      exact k v S H' (ex_refl S) (w3.push (plainD_rp hpl w2.known))
    · cases e
  · cases e
theorem SE.ro (h : SE X pin e t f) : SE X pin e t (fRo f) := ⟨h.pe, h.rd.ro⟩
end
end Qy
set_option Elab.async false
set_option linter.all false
set_option maxRecDepth 100000
set_option maxHeartbeats 400000
namespace Qy
open PySem PySem.Spec PyProof.Rows L2 ClX
/-! ### a triple read backwards -/
section
variable {prog : Program} {w : World} {A : Around} {E : Value → Shared → Prop} {s : Shared}
theorem adj3 : Builtin.Slice.sliceAdjust none none (-1) (3 : Int) = (2, -1) := by decide
theorem plc3 : Builtin.Slice.slicePlaces 2 (-1) (-1) = 3 := by decide
theorem applied3 {sl : Addr} {x y z : Value} {Q : Int × Int × Nat → Shared → Prop} (hs : s.heap.IsSliceOf sl x y z) (px : IsPart x none) (py : IsPart y none) (pz : IsPart z (some (-1)))
    (h : Q (2, -1, 3) s) : wpAny (model prog w) A (Builtin.Slice.sliceApplied (.ref sl) (pure (3 : Int))) Q E s := by
  obtain ⟨ob, g1, g2, g3⟩ := hs
  unfold Builtin.Slice.sliceApplied Builtin.Slice.sliceFields
  refine wpAny_bind (wpAny_bind (wpAny_field g1 g3 (x := x) rfl (wpAny_bind (wpAny_field g1 g3 (x := y) rfl (wpAny_bind (wpAny_field g1 g3 (x := z) rfl (wpAny_pure ?_)))))))
  refine wpAny_bind (HT.slicePart_ pz ?_)
  show wpAny _ _ (if ((-1 : Int) == 0) = true then _ else _) _ _ s
  rw [if_neg (by decide)]
  refine wpAny_bind (HT.slicePart_ px (wpAny_bind (HT.slicePart_ py (wpAny_bind (wpAny_pure ?_)))))
  show wpAny _ _ (match Builtin.Slice.sliceAdjust none none (-1) (3 : Int) with | (lo, hi) => pure (lo, (-1 : Int), Builtin.Slice.slicePlaces lo hi (-1))) _ _ s
  rw [adj3]
  show wpAny _ _ (pure ((2 : Int), (-1 : Int), Builtin.Slice.slicePlaces 2 (-1) (-1))) _ _ s
  rw [plc3]
  exact wpAny_pure h
theorem back3 {t sl : Addr} {a b c x y z : Value} {Q : Value → Shared → Prop} (ht : IsTup s.heap t #[a, b, c]) (hs : s.heap.IsSliceOf sl x y z) (px : IsPart x none) (py : IsPart y none) (pz : IsPart z (some (-1)))
    (h : Q (.ref s.heap.objs.size) { s with heap := s.heap.push { cls := .type "tuple", data := .seq #[c, b, a] } }) : wpAny (model prog w) A (getItem (.ref t) (.ref sl)) Q E s := by
  obtain ⟨ob, g1, g2, g3⟩ := id hs
  have ty : s.TypeIs (.ref sl) "slice" := ⟨ob, g1, g2⟩
  have fits : sizeOk (.seq #[c, b, a]) := by
    show (3 : Nat) ≤ sizeLine
    decide
  unfold getItem
  try with_reducible refine wpAny_holding ?_
  first | refine wpAny_bind (wpAny_pure ?_) | skip
  refine wpAny_bind (wpAny_sequenceKey ht.typeIs (by decide) ?_)
  refine wpAny_bind (wpAny_callSpecial?_slot (name := Str.ofString "__getitem__") ht.typeIs PyProof.Rows.slot_tuple_getitem (wpAny_call_entry PyProof.Rows.slot_tuple_getitem ht.typeIs entry_tuple_getitem ?_ (args_tuple_getitem _ _)))
  show wpAny _ _ (Builtin.Tuple.tupleItemsOf (.ref t) >>= _) _ _ s
  refine wpAny_bind (tupleItemsOf_ ht (wpAny_bind (wpAny_typeOf ty ?_)))
  rw [if_pos (by decide)]
  refine wpAny_bind (applied3 hs px py pz ?_)
  show wpAny _ _ (if ((2 : Int) == 0 && (-1 : Int) == 1 && (3 : Nat) == 3) = true then _ else _) _ _ s
  rw [if_neg (by decide)]
  have e : ((List.range 3).filterMap fun (k : Nat) => (#[a, b, c] : Array Value)[((2 : Int) + (k : Int) * -1).toNat]?).toArray = #[c, b, a] := by rfl
  rw [e]
  first
    | exact wpAny_bind (m := Builtin.Tuple.tupleExact _) (wpAny_newObj_type (wpAny_pure ⟨_, rfl, wpAny_pure h⟩) fits)
    | exact wpAny_bind (m := Builtin.Tuple.tupleExact _) (wpAny_newObj_type (wpAny_bind (wpAny_pure (wpAny_pure ⟨_, rfl, wpAny_pure h⟩))) fits)
    | exact wpAny_bind (wpAny_bind (m := Builtin.Tuple.tupleExact _) (wpAny_newObj_type (wpAny_pure (wpAny_pure ⟨_, rfl, wpAny_pure h⟩)) fits))
    | exact wpAny_bind (wpAny_bind (m := Builtin.Tuple.tupleExact _) (wpAny_newObj_type (wpAny_pure ⟨_, rfl, wpAny_pure h⟩) fits))
end
section
variable {X : Cx} {pin : List (Option V)} {K : PySem.W.Frag} {S S' H : Hp} {e a b c : Expr} {t ta tb tc tj : TE} {f fj : Fe} {oa ob : Fo} {pos p apos : Pos} {L T F : List It} {ρ ρ2 : Rho} {σ : L2.St}
def rRev3 (K : PySem.W.Frag) : V → Hp → VK → Prop := fun x H Q => ∃ a u v w, x = .ref a ∧ SqT K H a [u, v, w] ∧ ∀ p, H p = none → Q (.ref p) (upd H p (.tup [w, v, u]))
theorem pe_rev3 {k : Nat} {p1 p2 p3 : Pos} (he : PE X e t) : PE X (.Subscript e (.Slice none none (some (.UnaryOp .USub (.Constant (.int 1) k p1) p2)) p3) pos) (tUn (rRev3 X.K) t) := by
  refine ⟨fun pins s σ H Q I h => Subscript_ (thn (he.run pins s σ H _ I h) fun v s1 ⟨x, H1, I1, r1, q1⟩ => ?_)⟩
  obtain ⟨ad, x1, x2, x3, ex, hx, q⟩ := q1
  subst ex
  cases r1
  have step : PO X (some (.UnaryOp .USub (.Constant (.int 1) k p1) p2)) (tPart (tUn (rU fun i => .int (-i)) (tC (.int 1)))) := po_some (pe_un un_neg pe_int)
  refine wpAny_Slice (thn (po_none.run pins s1 σ H1 (fun o H2 => o = none ∧ H2 = H1) I1 ⟨rfl, rfl⟩) fun va s2 ⟨_, H2, I2, pa, ea, e2⟩ => ?_)
  subst ea e2
  refine thn (po_none.run pins s2 σ H2 (fun o H3 => o = none ∧ H3 = H2) I2 ⟨rfl, rfl⟩) fun vb s3 ⟨_, H3, I3, pb, eb, e3⟩ => ?_
  subst eb e3
  refine thn (step.run pins s3 σ H3 (fun o H4 => o = some (-1) ∧ H4 = H3) I3 ⟨1, rfl, -1, rfl, rfl, rfl⟩) fun vc s4 ⟨_, H4, I4, pc, ec, e4⟩ => ?_
  subst ec e4
  have J : Inv X pins σ H4 { s4 with heap := s4.heap.push { cls := .type "slice", data := .fields #[va, vb, vc] } } := I4.kept (t' := s4.toks) fun b ob z => Heap.get?_push_of_some _ z
  obtain ⟨its, r, tp, _⟩ := J.tuple hx
  cases r with
  | @cons _ i1 _ _ r1 r =>
    cases r with
    | @cons _ i2 _ _ r2 r =>
      cases r with
      | @cons _ i3 _ _ r3 r =>
        cases r
        show wpAny (model X.prog X.w) X.A (subscriptTail e (.Slice none none (some (.UnaryOp .USub (.Constant (.int 1) k p1) p2)) p3) (.ref ad) (.ref s4.heap.objs.size)) (EP X pins σ Q) X.xe { s4 with heap := s4.heap.push { cls := .type "slice", data := .fields #[va, vb, vc] } }
        refine tail_any (ops := [.ref ad, .ref s4.heap.objs.size]) tp.typeIs PyProof.Rows.slot_tuple_getitem.lookup ?_ (by with_unfolding_all rfl)
        refine back3 tp (Heap.IsSliceOf.new _ va vb vc) pa pb pc ?_
        refine ⟨.ref _, _, J.laid (t' := s4.toks) (o := .tup [x3, x2, x1]) (fun b ob z => Heap.get?_push_of_some _ z) (Nat.le_refl _) ?_, rfl, q _ (J.hok.fresh (Nat.le_refl _))⟩
        exact ⟨(show (3 : Nat) ≤ sizeLine by decide), [i3, i2, i1], .cons r3 (.cons r2 (.cons r1 .nil)), IsTup.new _ _⟩
def gRev3 : OD → Option OD := fun o => match o with
  | .st (.tup [x, y, z]) => some (.st (.tup [z, y, x]))
  | _ => none
theorem rg_rev3 : RG1 K (rRev3 K) gRev3 := by
  intro S H L x ox oz Q w e k
  unfold gRev3 at e
  split at e
  · rename_i d1 d2 d3
    cases e
    cases w.at0.st with
    | @tup ad vs _ _ h1 h2 h3 _ =>
      match vs, h2, h3 with
      | [u, v, y], _, h3 =>
        simp only [List.zip_cons_cons, List.zip_nil_right] at h3
        refine ⟨ad, u, v, y, rfl, SqT.of (w.le _ _ h1), fun p hp => ?_⟩
        obtain ⟨e1, o1⟩ := Own.newT (p := p) (vs := [y, v, u]) (ds := [d3, d2, d1]) w (.cons h3.tail.tail.head (.cons h3.tail.head (.cons h3.head .nil))) rfl hp
        exact k _ _ _ e1 o1
  · cases e
theorem se_rev3 {k : Nat} {p1 p2 p3 : Pos} (h : SO X pin e t oa) : SE X pin (.Subscript e (.Slice none none (some (.UnaryOp .USub (.Constant (.int 1) k p1) p2)) p3) pos) (tUn (rRev3 X.K) t) (fUn gRev3 oa) := ⟨pe_rev3 h.pe, re_un h.rd rg_rev3⟩
/-! ### a list read backwards -/
def rRevL (K : PySem.W.Frag) : V → Hp → VK → Prop := fun x H Q => ∃ a xs, x = .ref a ∧ SqL K H a xs ∧ ∀ p, H p = none → Q (.ref p) (upd H p (.lst xs.reverse))
def gRevL : OD → Option OD := fun o => match o.rd with
  | some (.lst ds) => some (.ol (ds.reverse.map .st))
  | _ => none
theorem rg_revL : RG1 K (rRevL K) gRevL := by
  intro S H L x ox oz Q w e k
  unfold gRevL at e
  split at e
  · rename_i ds hd
    cases e
    obtain ⟨ad, vs, rfl, ha, hl, hr⟩ := w.at0.lst w.le hd
    refine ⟨ad, vs, rfl, SqL.of ha, fun p hp => k _ S _ (ex_refl S) (Own.newS w ?_ (by simp [hl]) hp)⟩
    refine hr.sub fun q hq => ?_
    have e : vs.reverse.zip ds.reverse = (vs.zip ds).reverse := (List.reverse_zipWith hl).symm
    rw [e] at hq
    exact List.mem_reverse.mp hq
  · cases e
theorem se_revL {k : Nat} {p1 p2 p3 : Pos} (h : SO X pin e t oa) : SE X pin (.Subscript e (.Slice none none (some (.UnaryOp .USub (.Constant (.int 1) k p1) p2)) p3) pos) (tUn (rRevL X.K) t) (fUn gRevL oa) := ⟨pe_revL h.pe, re_un h.rd rg_revL⟩
/-! ### tuples put together -/
def gCatT : OD → OD → Option OD := fun x y => match x, y with
  | .st (.tup xs), .st (.tup ys) => if xs ≠ [] ∧ ys ≠ [] ∧ xs.length + ys.length ≤ big then some (.st (.tup (xs ++ ys))) else none
  | _, _ => none
theorem rg_catT : RG2 K (rCatT K) gCatT := by
  intro S H L x y ox oy oz Q w e k
  unfold gCatT at e
  split at e
  · rename_i xs ys
    split at e
    · rename_i hc
      cases e
      cases w.at1.st with
      | @tup a1 vs _ _ h1 h2 h3 _ =>
        cases w.at0.st with
        | @tup a2 us _ _ g1 g2 g3 _ =>
          have hx : vs ≠ [] := by intro z; subst z; exact hc.1 (List.length_eq_zero_iff.mp h2.symm)
          have hy : us ≠ [] := by intro z; subst z; exact hc.2.1 (List.length_eq_zero_iff.mp g2.symm)
          refine ⟨a1, a2, vs, us, rfl, rfl, SqT.of (w.le _ _ h1), SqT.of (w.le _ _ g1), hx, big_le (by omega), fun z => absurd z hy, fun _ p hp => ?_⟩
          obtain ⟨e1, o1⟩ := Own.newT (p := p) (vs := vs ++ us) (ds := xs ++ ys) w (by rw [List.zip_append h2]; exact h3.append g3) (by simp [h2, g2]) hp
          exact k _ _ _ e1 o1
    · cases e
  · cases e
/-! ### str(i) -/
def gStrI : OD → Option OD := fun o => match o with
  | .st (.int i) => if i.natAbs < 1000000 then some (.st (.str (toString i))) else none
  | _ => none
def rStrI : List V → Hp → VK → Prop := fun xs H Q => ∃ i : Int, xs = [.int i] ∧ i.natAbs.log2 < 1920 ∧ Q (.str (toString i)) H
theorem call_strI : CallR X (.type "str") rStrI := call_str_int
theorem rg_strI : RG1 K (fun x H Q => rStrI [x] H Q) gStrI := by
  intro S H L x ox oz Q w e k
  unfold gStrI at e
  split at e
  · rename_i i
    split at e
    · rename_i hi
      cases e
      have r := w.at0.st
      cases r
      refine ⟨i, rfl, ?_, k _ S H (ex_refl S) (w.push (.str .nil))⟩
      by_cases h0 : i.natAbs = 0
      · rw [h0]; decide
      · exact (Nat.log2_lt h0).mpr (Nat.lt_of_lt_of_le hi (by decide))
    · cases e
  · cases e
/-! ### x is not True, x plain -/
def gNotTrue : OD → OD → Option OD := fun x y => match x, y with
  | .st (.bl b), .st (.bl true) => some (.st (.bl (!b)))
  | .st (.int _), .st (.bl true) => some (.st (.bl true))
  | .st (.str _), .st (.bl true) => some (.st (.bl true))
  | .st .non, .st (.bl true) => some (.st (.bl true))
  | _, _ => none
def rNotTrue : R2 := fun x y H Q => y = .bl true ∧ ((∃ b, x = .bl b ∧ Q (.bl (!b)) H) ∨ (((∃ i, x = .int i) ∨ (∃ z, x = .str z) ∨ x = .non) ∧ Q (.bl true) H))
theorem op_notTrue : OpR X (compareOp .IsNot) rNotTrue := by
  intro pins s σ H x y v u Q I rx ry h
  obtain ⟨rfl, h⟩ := h
  cases (show u = Value.bool true from ry)
  rcases h with ⟨b, rfl, q⟩ | ⟨hx, q⟩
  · cases (show v = Value.bool b from rx)
    cases b with
    | true => exact wpAny_isNot_self rfl ⟨.bl false, H, I, rfl, q⟩
    | false => exact wpAny_isNot_other rfl (fun z => nomatch z) ⟨.bl true, H, I, rfl, q⟩
  · rcases hx with ⟨i, rfl⟩ | ⟨z, rfl⟩ | rfl
    · obtain ⟨t, rfl⟩ := rx
      exact wpAny_isNot_other rfl (fun z => nomatch z) ⟨.bl true, H, I, rfl, q⟩
    · obtain ⟨t, rfl⟩ := rx
      exact wpAny_isNot_other rfl (fun z => nomatch z) ⟨.bl true, H, I, rfl, q⟩
    · cases (show v = Value.none from rx)
      exact wpAny_isNot_other rfl (fun z => nomatch z) ⟨.bl true, H, I, rfl, q⟩
theorem rg_notTrue : RG2 K rNotTrue gNotTrue := by
  intro S H L x y ox oy oz Q w e k
  unfold gNotTrue at e
  split at e
  · cases e
    have r1 := w.at1.st
    have r2 := w.at0.st
    cases r1
    cases r2
    exact ⟨rfl, .inl ⟨_, rfl, k _ S H (ex_refl S) (w.push (.bl .nil))⟩⟩
  · cases e
    have r1 := w.at1.st
    have r2 := w.at0.st
    cases r1
    cases r2
    exact ⟨rfl, .inr ⟨.inl ⟨_, rfl⟩, k _ S H (ex_refl S) (w.push (.bl .nil))⟩⟩
  · cases e
    have r1 := w.at1.st
    have r2 := w.at0.st
    cases r1
    cases r2
    exact ⟨rfl, .inr ⟨.inr (.inl ⟨_, rfl⟩), k _ S H (ex_refl S) (w.push (.bl .nil))⟩⟩
  · cases e
    have r1 := w.at1.st
    have r2 := w.at0.st
    cases r1
    cases r2
    exact ⟨rfl, .inr ⟨.inr (.inr rfl), k _ S H (ex_refl S) (w.push (.bl .nil))⟩⟩
  · cases e
/-! ### repr({}) -/
def rRep0 : List V → Hp → VK → Prop := fun xs H Q => ∃ a, xs = [.ref a] ∧ H a = some (.dK []) ∧ Q (.str (PyData.shown (.dict []))) H
theorem call_rep0 (hu : X.A.units + 66 < cLine) (hg : X.A.guards = some []) : CallR X (.builtin "repr") rRep0 := by
  intro pins s σ H xs us Q I r h
  obtain ⟨a, rfl, ha, q⟩ := h
  obtain ⟨u, rfl, ru⟩ := vals1 r
  cases ru
  obtain ⟨_, hm, vs, rel, o, es, ep, ho, hx, hd, _, hp, _⟩ := dk_of I.hok ha
  cases rel
  have he : es.toList = [] := by
    cases hl : es.toList with
    | nil => rfl
    | cons y ys => rw [hl] at hp; cases hp
  have rd : Reads s.heap (.ref a) (.dict []) [a] := by
    have := Reads.dict (kvs := []) (as := []) (bs := []) ho hx.1 hd (by rw [he]; exact .nil) (by rw [he]; exact .nil)
    simpa using this
  refine repr_of_reads' rd rfl (fun _ z => ?_) hg (by show X.A.units + 2 < cLine; omega) (fun _ _ z => z) (fun h' u tk hk => ⟨.str _, H, I.kept hk, ⟨_, rfl⟩, q⟩) (by decide +kernel)
  have : sysModules = a := by simpa using z
  rw [← this] at hm
  simp at hm
def gRep0 : OD → Option OD := fun o => match o.rd with
  | some (.dK []) => some (.st (.str (PyData.shown (.dict []))))
  | _ => none
theorem rg_rep0 : RG1 K (fun x H Q => rRep0 [x] H Q) gRep0 := by
  intro S H L x ox oz Q w e k
  unfold gRep0 at e
  split at e
  · rename_i hd
    cases e
    obtain ⟨ad, ks, rfl, hA, r⟩ := w.at0.dKr w.le hd
    have : ks = [] := by
      have := r.len
      exact List.length_eq_zero_iff.mp this
    subst this
    exact ⟨ad, rfl, hA, k _ S H (ex_refl S) (w.push (.str .nil))⟩
  · cases e
def rReprQ (K : PySem.W.Frag) : List V → Hp → VK → Prop := fun xs H Q => rRepr K xs H Q ∨ rRep0 xs H Q
theorem cr_reprQ (hu : X.A.units + 66 < cLine) (hg : X.A.guards = some []) : CallR X (.builtin "repr") (rReprQ X.K) := CallR.or (call_repr hu hg) (call_rep0 hu hg)
def gReprQ : OD → Option OD := gOr1 gRepr gRep0
theorem rg_reprQ : RG1 K (fun x H Q => rReprQ K [x] H Q) gReprQ := rg_repr.or rg_rep0
end
end Qy
set_option Elab.async false
set_option linter.all false
set_option maxRecDepth 100000
set_option maxHeartbeats 400000
namespace Qy
open PySem PySem.Spec PyProof.Rows L2 ClX
section
variable {X : Cx} {pin : List (Option V)} {K : PySem.W.Frag} {S S' H : Hp} {e a b c : Expr} {t ta tb tc tj : TE} {f fj : Fe} {oa ob : Fo} {pos p apos : Pos} {L T F : List It} {ρ ρ2 : Rho} {σ : L2.St}
/-! ### range(i, j, -1) -/
def rngDn (i : Int) (n : Nat) : List D := (List.range n).map fun (k : Nat) => .int (i + (k : Int) * (-1))
theorem rngDn_y {lo : Int} {n i : Nat} {d : D} (h : (rngDn lo n)[i]? = some d) : d = .int (lo + (i : Int) * (-1)) := by
  unfold rngDn at h
  rw [List.getElem?_map] at h
  by_cases hi : i < n
  · rw [List.getElem?_range hi] at h
    exact (Option.some.inj h).symm
  · rw [List.getElem?_eq_none (by simpa using hi)] at h
    cases h
def fItR3 (f : Fa) : Fi := fun ρ => match f ρ with
  | some ([.st (.int i), .st (.int j), .st (.int c)], ρ') => if c = -1 ∧ -(2 ^ 62) ≤ i ∧ i < 2 ^ 62 ∧ -(2 ^ 62) ≤ j ∧ j < 2 ^ 62 then some (rngDn i (i - j).toNat, ρ') else none
  | _ => none
theorem ri_rng3 {t : TA} {f : Fa} (h : RA K pin t f) : RI K pin (iRng3 t) (fItR3 f) := by
  intro S H T ρ σ F R ds ρ' w e k
  unfold fItR3 at e
  split at e
  · rename_i i j c ρ1 q
    split at e
    · rename_i hb
      cases e
      obtain ⟨rfl, b1, b2, b3, b4⟩ := hb
      refine h S H T ρ σ F _ _ _ w q fun vs S' H' x hl w' => ?_
      match vs, hl with
      | [v, u, z], _ =>
        have w'' : Sat K pin S' H' ((v, .st (.int i)) :: (u, .st (.int j)) :: (z, .st (.int (-1))) :: T) ρ' σ F := w'
        cases (show Rp K S' v (.int i) from w''.known)
        cases (show Rp K S' u (.int j) from w''.tl.known)
        cases (show Rp K S' z (.int (-1)) from w''.tl.tl.known)
        have hn : (rngDn i (i - j).toNat).length = (i - j).toNat := by simp [rngDn]
        refine ⟨i, j, -1, (i - j).toNat, rfl, RgC.neg b1 b2 b3 b4, k (Itc i (-1) (i - j).toNat) (fun _ => True) (YFn fun n => .int (i + (n : Nat) * (-1))) S' H' x w''.tl.tl.tl (by rw [hn]; exact walk_rangeC) (fun _ _ => trivial) fun i d H2 y H3 S2 L hd e2 o2 hy => ?_⟩
        obtain ⟨rfl, rfl⟩ := hy
        rw [rngDn_y hd]
        exact ⟨S2, ex_refl S2, o2.push (.int .nil)⟩
    · cases e
  · cases e
theorem si_rng3 {tg : Expr} {t : TA} {f : Fa} (hm : X.mg "range" = none) (h : SA X pin [a, b, c] t f) (hg : Gl X "range" := by rfl) (hs : starEach [a, b, c] X.env = (false, eval a X.env) :: starEach [b, c] X.env := by rfl) (hpl : (backTo pos (starEach [b, c] X.env)).any (·.1) = false := by rfl) : SI X pin tg (.Call (.Name "range" p) [a, b, c] [] pos) (iRng3 t) (fItR3 f) := ⟨pi_range3 hg hm h.pe hs hpl, ri_rng3 h.rd⟩
/-! ### min(x), max(x) of a list of numbers, or of texts -/
def strLt (x y : Str) : Bool := decide (x.cps.toList < y.cps.toList)
def minS (z : Str) (zs : List Str) : Str := zs.foldl (fun a y => if strLt y a then y else a) z
theorem minD_strs (z : Str) (zs : List Str) : W.minD (.str z) (zs.map .str) = .str (minS z zs) := by
  unfold W.minD minS
  induction zs generalizing z with
  | nil => rfl
  | cons y r ih =>
    simp only [List.map_cons, List.foldl_cons]
    rw [W.dataLt_str]
    have e : (if decide (y.cps.toList < z.cps.toList) = true then PyData.str y else PyData.str z) = .str (if strLt y z = true then y else z) := by
      unfold strLt
      split <;> rfl
    rw [e]
    exact ih _
def rMinS (K : PySem.W.Frag) : List V → Hp → VK → Prop := fun vs H Q => ∃ (a : Addr) (z : Str) (zs : List Str), vs = [V.ref a] ∧ SqL K H a ((z :: zs).map V.str) ∧ Q (.str (minS z zs)) H
theorem dpAll_strs {H : Hp} : ∀ zs : List Str, DpAll K H (zs.map V.str) (zs.map PyData.str)
  | [] => .nil
  | z :: zs => .cons (.str z) (dpAll_strs zs)
theorem depth_strs : ∀ zs : List Str, PyData.depthAll (zs.map PyData.str) = 0
  | [] => rfl
  | z :: zs => by
    have := depth_strs zs
    simp only [List.map_cons, PyData.depthAll, PyData.depth, this]
    rfl
theorem cr_minS (hc : X.calm = true) (hu : X.A.units + 1 < cLine) : CallR X (.builtin "min") (rMinS X.K) := by
  intro pins s σ H vs us Q I r h
  obtain ⟨a, z, zs, rfl, hs, q⟩ := h
  obtain ⟨its, rv, hl, _⟩ := I.list hs
  rw [Vals.ref1 r]
  obtain ⟨as, hr⟩ := Dp.readsAll I _ _ _ (dpAll_strs (z :: zs)) rv
  refine W.min_list_data (x := .str z) (xs := zs.map PyData.str) (as := as) (I.ok.hd hc) hl.isList hr ⟨fun x hx y hy => ?_, fun x hx => ?_⟩ ?_ fun i v h' tk bs hv hv2 hk => ?_
  · have hx' : x ∈ (z :: zs).map PyData.str := hx
    have hy' : y ∈ (z :: zs).map PyData.str := hy
    obtain ⟨_, _, rfl⟩ := List.mem_map.mp hx'
    obtain ⟨_, _, rfl⟩ := List.mem_map.mp hy'
    rfl
  · have hx' : x ∈ (z :: zs).map PyData.str := hx
    obtain ⟨_, _, rfl⟩ := List.mem_map.mp hx'
    exact fun z => nomatch z
  · have := depth_strs (z :: zs)
    rw [List.map_cons] at this
    rw [this]
    exact hu
  · rw [minD_strs] at hv2
    cases hv2 with
    | str _ tt => exact ⟨.str (minS z zs), H, I.kept hk, ⟨_, rfl⟩, q⟩
def rMinL (K : PySem.W.Frag) : List V → Hp → VK → Prop := fun vs H Q => rMin K vs H Q ∨ rMinS K vs H Q
theorem cr_minL (hc : X.calm = true) (hu : X.A.units + 1 < cLine) : CallR X (.builtin "min") (rMinL X.K) := by
  intro pins s σ H vs us Q I r h
  rcases h with h | h
  · exact cr_min hc pins s σ H vs us Q I r h
  · exact cr_minS hc hu pins s σ H vs us Q I r h
def gMinL : OD → Option OD := fun a => match a.rd with
  | some (.lst ds) => (match intsOf ds with
    | some (n :: ns) => some (.st (.int (ns.foldl min n)))
    | _ => match strsOf ds with
      | some (z :: zs) => some (.st (.str (minS z zs)))
      | _ => none)
  | _ => none
def gMaxL : OD → Option OD := fun a => match a.rd with
  | some (.lst ds) => (match intsOf ds with
    | some (n :: ns) => some (.st (.int (ns.foldl max n)))
    | _ => none)
  | _ => none
theorem foldl_min_le : ∀ (ns : List Int) (n : Int), ns.foldl min n ≤ n ∧ (∀ m ∈ ns, ns.foldl min n ≤ m) ∧ (ns.foldl min n = n ∨ ns.foldl min n ∈ ns)
  | [], n => ⟨Int.le_refl _, (fun _ h => nomatch h), Or.inl rfl⟩
  | m :: ns, n => by
    obtain ⟨h1, h2, h3⟩ := foldl_min_le ns (min n m)
    rw [List.foldl_cons]
    refine ⟨by omega, fun k hk => ?_, ?_⟩
    · rcases List.mem_cons.mp hk with rfl | hk
      · omega
      · exact h2 k hk
    · rcases h3 with h3 | h3
      · by_cases h : n ≤ m
        · left; omega
        · right; rw [h3]; simp; left; omega
      · right; exact List.mem_cons_of_mem _ h3
theorem foldl_max_le : ∀ (ns : List Int) (n : Int), n ≤ ns.foldl max n ∧ (∀ m ∈ ns, m ≤ ns.foldl max n) ∧ (ns.foldl max n = n ∨ ns.foldl max n ∈ ns)
  | [], n => ⟨Int.le_refl _, (fun _ h => nomatch h), Or.inl rfl⟩
  | m :: ns, n => by
    obtain ⟨h1, h2, h3⟩ := foldl_max_le ns (max n m)
    rw [List.foldl_cons]
    refine ⟨by omega, fun k hk => ?_, ?_⟩
    · rcases List.mem_cons.mp hk with rfl | hk
      · omega
      · exact h2 k hk
    · rcases h3 with h3 | h3
      · by_cases h : m ≤ n
        · left; omega
        · right; rw [h3]; simp; left; omega
      · right; exact List.mem_cons_of_mem _ h3
theorem rg_minL : RG1 K (fun x H Q => rMinL K [x] H Q) gMinL := by
  intro S H L x ox oz Q w e k
  unfold gMinL at e
  split at e
  · rename_i ds hx
    obtain ⟨a, vs, rfl, ha, hl, hr⟩ := w.at0.lst w.le hx
    split at e
    · rename_i n ns hb
      cases e
      rw [ints_eq hb] at hl hr
      have := rp_ints (by simpa using hl) hr
      subst this
      refine .inl ⟨a, n :: ns, rfl, SqL.of ha, by simp, fun m hm h1 => ?_⟩
      obtain ⟨h2, h3, h4⟩ := foldl_min_le ns n
      have hmem : ns.foldl min n ∈ n :: ns := by
        rcases h4 with h4 | h4
        · rw [h4]; exact List.mem_cons_self
        · exact List.mem_cons_of_mem _ h4
      have e1 : m = ns.foldl min n := by
        have a1 := h1 _ hmem
        rcases List.mem_cons.mp hm with rfl | hm
        · omega
        · have := h3 m hm; omega
      rw [e1]
      exact k _ S H (ex_refl S) (w.push (.int .nil))
    · split at e
      · rename_i z zs hb
        cases e
        rw [strsOf_eq hb] at hl hr
        have := rp_strs (by simpa using hl) hr
        subst this
        exact .inr ⟨a, z, zs, rfl, SqL.of ha, k _ S H (ex_refl S) (w.push (.str .nil))⟩
      · cases e
  · cases e
theorem rg_maxL : RG1 K (fun x H Q => rMax K [x] H Q) gMaxL := by
  intro S H L x ox oz Q w e k
  unfold gMaxL at e
  split at e
  · rename_i ds hx
    obtain ⟨a, vs, rfl, ha, hl, hr⟩ := w.at0.lst w.le hx
    split at e
    · rename_i n ns hb
      cases e
      rw [ints_eq hb] at hl hr
      have := rp_ints (by simpa using hl) hr
      subst this
      refine ⟨a, n :: ns, rfl, SqL.of ha, by simp, fun m hm h1 => ?_⟩
      obtain ⟨h2, h3, h4⟩ := foldl_max_le ns n
      have hmem : ns.foldl max n ∈ n :: ns := by
        rcases h4 with h4 | h4
        · rw [h4]; exact List.mem_cons_self
        · exact List.mem_cons_of_mem _ h4
      have e1 : m = ns.foldl max n := by
        have a1 := h1 _ hmem
        rcases List.mem_cons.mp hm with rfl | hm
        · omega
        · have := h3 m hm; omega
      rw [e1]
      exact k _ S H (ex_refl S) (w.push (.int .nil))
    · cases e
  · cases e
/-! ### x < y of data of like kinds -/
def rLtD (K : PySem.W.Frag) : R2 := fun x y H Q => ∃ p q, Dp K H x p ∧ Dp K H y q ∧ W.alike p q = true ∧ p ≠ .none ∧ min p.depth q.depth ≤ 64 ∧ Q (.bl (W.dataLt p q)) H
theorem op_ltD (hu : X.A.units + 64 < cLine) : OpR X (compareOp .Lt) (rLtD X.K) := by
  intro pins s σ H x y v u Q I rx ry h
  obtain ⟨p, q, hp, hq, h1, h2, h3, k⟩ := h
  obtain ⟨as, ra⟩ := Dp.reads I _ _ _ hp rx
  obtain ⟨bs, rb⟩ := Dp.reads I _ _ _ hq ry
  exact W.rcLt_alike p q X.A s v u as bs ra rb h1 h2 (by omega) X.prog X.w X.xe _ ⟨.bl (W.dataLt p q), H, I, rfl, k⟩
def notNon : PyData → Bool
  | .none => false
  | _ => true
def gLtD : OD → OD → Option OD := fun a b => match a.py, b.py with
  | some p, some q => if W.alike p q = true ∧ notNon p = true ∧ min p.depth q.depth ≤ 64 then some (.st (.bl (W.dataLt p q))) else none
  | _, _ => none
theorem rg_ltD : RG2 K (rLtD K) gLtD := by
  intro S H L x y ox oy oz Q w e k
  unfold gLtD at e
  split at e
  · rename_i p q h1 h2
    split at e
    · rename_i hs
      cases e
      exact ⟨p, q, w.at1.py w.le h1, w.at0.py w.le h2, hs.1, fun z => by subst z; exact Bool.false_ne_true hs.2.1, hs.2.2, k _ S H (ex_refl S) (w.push (.bl .nil))⟩
    · cases e
  · cases e
end
end Qy
set_option Elab.async false
set_option linter.all false
set_option maxRecDepth 100000
set_option maxHeartbeats 400000
namespace Qy
open PySem PySem.Spec PyProof.Rows L2 ClX
/-! ### for x in o, o of a class of one's own whose __iter__ is: return iter(self.f), f a tuple -/
/-- a def's promise that may speak of the heap's size at the call -/
structure FnZ (P : Program) (w : World) (K : PySem.W.Frag) (mg : Str → Option Value) (base : Heap) (k : Nat) (f : Addr) (fd : FuncData) (ps : List Str) (sp : Nat → Sp) : Prop where
  len : ∀ n vs H Q E, sp n vs H Q E → vs.length = ps.length
  run : ∀ (A : Around) (out : List Env) (z : Shared) (H : Hp) (args : Args) (us : List Value) (vs : List V) (Q : VK) (E : XK), A.guards = some [] → Room k A → Env0 P w K mg base A out z H → BindsTo z fd args (ps.zip us) → Vals vs us → sp z.heap.objs.size vs H Q E → codeAny (model P w) A (.call (.ref f) args) (CR CX0 out P w H z Q E) z
section
variable {P : Program} {w : World} {K : PySem.W.Frag} {mg : Str → Option Value} {base : Heap}
theorem fnZ_of {k : Nat} {f : Addr} {nm qual : Str} {pa : Arguments} {body : List Stmt} {sc : Scope} {dV kV doc pm cdv ct oc : Value} {an od : Option Addr} {osl : Array (Option Value)} {N ps : List Str} {sp : Nat → Sp}
    (lk : K.lookup f = some ⟨oc, od, .func (PySem.W.fnOf nm qual pa body sc dV kV doc pm an cdv ct), osl⟩) (hcd : PySem.W.codeIn K cdv qual = true) (Sc : FnScope N ps sc) (len : ∀ n vs H Q E, sp n vs H Q E → vs.length = ps.length)
    (hb0 : ∀ (A : Around) (out : List Env) (z : Shared) (H : Hp) (vs : List V) (Q : VK) (E : XK), A.guards = some [] → Room k (A.deeper (envOfC qual sc z.heap.objs.size f cdv)) → sp z.heap.objs.size vs H Q E →
      ∃ t, PSs (cxOf CX0 P w K mg base N qual sc f cdv A out z H E) body t ∧ t { nx := fun _ G => Q .non G, rt := Q } (L2.start N vs) H) :
    FnZ P w K mg base (k + 1) f (PySem.W.fnOf nm qual pa body sc dV kV doc pm an cdv ct) ps sp := by
  refine ⟨len, fun A out z H args us vs Q E gd hr e0 hb r hsp => ?_⟩
  have old : ∀ b o, base.get? b = some o → z.heap.get? b = some o := fun b o e => (e0.bs b o e).1
  have KX : K.In z.heap := e0.mod.kin.keeps old
  have kinds : ∀ y ∈ ps.zip us, sc.names.lookup y.1 = some .local ∨ (sc.names.lookup y.1 = some .cell ∧ ((cellsFrom (z.heap.objs.size + 1) sc.names []).lookup y.1).isSome = true) := fun ⟨n, v⟩ hy =>
    (Sc.par n (List.of_mem_zip hy).1).elim .inl fun q => .inr ⟨q, PySem.W.cellsFrom_some _ _ _ (.inl q)⟩
  refine codeAny_call_function hr.depth (KX _ _ lk) rfl Sc.co Sc.gen rfl (PySem.W.codeRec_of KX hcd) (hb _ _ _ _ (wpAny_newFunctionEnv_cells Sc.kind kinds fun env he z1 x => ?_))
  subst he
  refine ⟨(e0.mod.nolimit.keeps old).keeps x.toInCall.keep, codeAny_func ?_⟩
  obtain ⟨t, ht, hq⟩ := hb0 A out z H vs Q E gd (hr.deeper _) hsp
  have I : Inv (cxOf CX0 P w K mg base N qual sc f cdv A out z H E) [] (L2.start N vs) H z1 := inv_start Sc hr.hd e0 (len _ _ _ _ _ hsp) r x
  refine wpAny_mono (ht.run [] z1 (L2.start N vs) H _ I hq) (fun fl z2 hs => ?_) fun e z2 hs => hs
  cases fl with
  | ret u => obtain ⟨v, s', G, J, rv, q⟩ := hs; exact ⟨v, G, J.os, J.bare, J.base, J.hok, rv, q⟩
  | next => obtain ⟨s', G, J, q⟩ := hs; exact ⟨V.non, G, J.os, J.bare, J.base, J.hok, rfl, q⟩
  | brk => obtain ⟨_, _, _, q⟩ := hs; exact q.elim
  | cont => obtain ⟨_, _, _, q⟩ := hs; exact q.elim
end
/-- a tuple's iterator, at its begin -/
def ItT (p it : Addr) : HO := .ext fun h => h.IsTupleIter it p 0
theorem itT_ok {P : Program} {w : World} {H : Hp} {h : Heap} {p it : Addr} (e : h.IsTupleIter it p 0) : ObjOk P w H h it (ItT p it) := by
  refine ⟨e, ?_, fun h1 h2 q k => q.at k⟩
  obtain ⟨o, e1, _⟩ := e
  exact ⟨o, e1⟩
section
variable {X : Cx} {pin : List (Option V)} {K : PySem.W.Frag} {S S' H : Hp} {e a b c : Expr} {t ta tb tc tj : TE} {f fj : Fe} {oa ob : Fo} {pos p apos : Pos} {L T F : List It} {ρ ρ2 : Rho} {σ : L2.St} {cn fl : Str} {k : Nat}
def rIterT (K : PySem.W.Frag) (n : Nat) : List V → Hp → VK → Prop := fun xs H Q => ∃ (l : Addr) (zs : List V), xs = [.ref l] ∧ SqT K H l zs ∧ ∀ it, H it = none → n ≤ it → Q (.ref it) (upd H it (ItT l it))
theorem call_iterT : CallR X (.builtin "iter") (rIterT X.K X.s_0.heap.objs.size) := by
  intro pins s σ H xs us Q I r h
  obtain ⟨l, zs, rfl, hq, q⟩ := h
  obtain rfl := Vals.ref1 r
  obtain ⟨its, rv, pl, hz⟩ := I.tuple hq
  refine Calls.call_function_entry (by decide +kernel) (by decide +kernel) PySem.W.kdk_entry_iter (PySem.W.kdk_args_iter _) ?_
  unfold Builtin.«iter»
  refine wpAny_bind (m := someArgs "iter" 1 2 _) (wpAny_of_eq (a := [Value.ref l]) (by first | rfl | kernel_rfl!) ?_)
  show wpAny _ _ (pyIter (.ref l) >>= _) _ _ _
  refine wpAny_bind (wpAny_pyIter_tuple (show s.heap.IsTuple l its.toArray from pl) ?_)
  refine wpAny_pure ⟨_, rfl, ?_⟩
  exact ⟨.ref s.heap.objs.size, _, I.laid (t' := s.toks) (fun b u e => Heap.get?_push_of_some _ e) (Nat.le_refl _) (itT_ok ⟨_, Heap.get?_push_size _ rfl, rfl, rfl⟩), rfl, q _ (I.hok.fresh (Nat.le_refl _)) I.sz⟩
/-- what such an __iter__ promises -/
def spIt (K : PySem.W.Frag) (cn fl : Str) (n : Nat) : Sp := fun vs H Q _ => ∃ a dx fs l zs, vs = [.ref a] ∧ H a = some (.ins (He.ga K cn) dx fs) ∧ fs.lookup fl = some (.ref l) ∧ SqT K H l zs ∧ ∀ it, H it = none → n ≤ it → Q (.ref it) (upd H it (ItT l it))
end
structure CalI (P : Program) (w : World) (K : PySem.W.Frag) (mg : Str → Option Value) (base : Heap) (cn fl : Str) (k : Nat) : Prop where
  ex : ∃ f fd, PySem.W.findIn K (.ref (He.ga K cn)) "__iter__" = some (some (.ref f)) ∧ PySem.W.isFn K (.ref f) = true ∧ PySem.W.keepIn K (.ref f) = true ∧ Binds K fd ["self"] [] ∧ FnZ P w K mg base k f fd ["self"] (spIt K cn fl)
section
variable {X : Cx} {pin : List (Option V)} {K : PySem.W.Frag} {S S' H : Hp} {e a b c : Expr} {t ta tb tc tj : TE} {f fj : Fe} {oa ob : Fo} {pos p apos : Pos} {L T F : List It} {ρ ρ2 : Rho} {σ : L2.St} {cn fl : Str} {k : Nat}
def iOwn (K : PySem.W.Frag) (cn fl : Str) (t : TE) : TI := fun σ H R => t σ H fun x H1 => ∃ a dx fs l zs, x = .ref a ∧ H1 a = some (.ins (He.ga K cn) dx fs) ∧ fs.lookup fl = some (.ref l) ∧ SqT K H1 l zs ∧ R (Itt K l) H1
theorem pi_own {tg : Expr} (ci : CalI X.prog X.w X.K X.mg X.base cn fl k) (gd : X.A.guards = some []) (hr : Room k X.A) (he : PE X e t) : PI X tg e (iOwn X.K cn fl t) := by
  refine ⟨fun pins s σ H R I h => ?_⟩
  refine thn (he.run pins s σ H _ I h) fun v s1 ⟨x, H1, I1, r1, q1⟩ => ?_
  obtain ⟨ad, dx, fs, l, zs, rfl, ha, hf, hq, q⟩ := q1
  cases r1
  obtain ⟨fa, fd, h1, h2, h3, h4, h5⟩ := ci.ex
  obtain ⟨m, hF⟩ := I1.fr
  obtain ⟨mA, O1, _⟩ := ins_get I1.hok ha
  obtain ⟨od, J, _⟩ := O1.look
  have hb := h4 s1 [Value.ref ad] I1.kIn (by simp)
  rw [List.append_nil] at hb
  refine PySem.W.owit_iter hF I1.ok.mod.kin J h1 h2 ?_
  refine wpAny_call (codeAny_mono (h5.run X.A X.stack s1 H1 ⟨[.ref ad], []⟩ [.ref ad] [.ref ad] (fun v G => ∃ it, v = .ref it ∧ H1 it = none ∧ s1.heap.objs.size ≤ it ∧ G = upd H1 it (ItT l it)) E0 gd hr I1.env0 hb (.cons rfl .nil) ⟨ad, dx, fs, l, zs, rfl, ha, hf, hq, fun it hi hn => ⟨it, rfl, hi, hn, rfl⟩⟩) fun rr z2 hz => ?_)
  cases rr with
  | error er => exact (pass0 pins σ H1 s1 er z2 I1 hz)
  | ok flo => cases flo with
    | ret u =>
      obtain ⟨v, G, I2, rv, it, rfl, hi, hn, rfl⟩ := I1.after hz
      cases rv
      have st : z2.heap.IsTupleIter it l 0 := (show ObjOk X.prog X.w _ z2.heap it (ItT l it) from I2.hok it _ upd_same).1
      have hT := st.typeIs (s := z2)
      unfold PySem.W.OwitIt
      refine wpAny_specialOf (name := Str.ofString "__next__") hT PyProof.Rows.slot_tupleiter_next.lookup ?_
      have hd : ItX.dropH (upd H1 it (ItT l it)) it = H1 := ItX.dropH_upd hi
      have I3 : Inv X pins σ H1 z2 := by
        have := ItX.inv_drop I2 (a := it) upd_same
        rw [hd] at this
        exact this
      refine ⟨it, [it], _, _, H1, rfl, I3, turn_tuple l it, st, fun b hb => ?_, q⟩
      have e : b = it := by simpa using hb
      rw [e]
      have := ItX.inv_fp I2 (u := ItT l it) upd_same (Nat.le_trans I1.sz hn)
      rw [hd] at this
      exact this
    | next | brk | cont => exact hz.elim
def fItOwn (cn fl : Str) (f : Fe) : Fi := fun ρ => match f ρ with
  | some (.st (.ins c fs), ρ') => if c = cn then (match fs.lookup fl with
    | some (.tup ds) => some (ds, ρ')
    | _ => none) else none
  | _ => none
theorem ri_own (h : RE K pin t f) : RI K pin (iOwn K cn fl t) (fItOwn cn fl f) := by
  intro S H T ρ σ F R ds ρ' w e k
  unfold fItOwn at e
  split at e
  · rename_i c fs ρ1 q
    split at e
    · rename_i hc
      subst hc
      split at e
      · rename_i ds' hl
        cases e
        refine h S H T ρ σ F _ _ _ w q fun v S' H' x w' => ?_
        cases w'.known with
        | @ins ad _ dx vs _ _ a1 a2 a3 _ =>
          obtain ⟨u, hu, ru⟩ := rp_lookup a2 a3 hl
          cases ru with
          | tup b1 b2 b3 q9 =>
            rename_i at_ us
            refine ⟨ad, dx, vs, at_, us, rfl, w'.le _ _ a1, hu, SqT.of (w'.le _ _ b1), k _ _ (YAt us) S' H' x w'.tl (b2 ▸ walk_tup (K := K)) (fun H2 e2 => SqT.of (e2 _ _ b1)) fun i d H2 y H3 S2 L hd e2 o2 hy => ?_⟩
            obtain ⟨rfl, hv⟩ := hy
            exact ⟨S2, ex_refl S2, o2.push ((rp_at b3 hv hd).mono e2)⟩
      · cases e
    · cases e
  · cases e
theorem si_own {tg : Expr} (ci : CalI X.prog X.w X.K X.mg X.base cn fl k) (gd : X.A.guards = some []) (hr : Room k X.A) (h : SE X pin e t f) (hK : X.K = K := by rfl) : SI X pin tg e (iOwn K cn fl t) (fItOwn cn fl f) := by
  subst hK
  exact ⟨pi_own ci gd hr h.pe, ri_own h.rd⟩
end
section
variable {P : Program} {w : World} {K : PySem.W.Frag} {mg : Str → Option Value} {base : Heap}
theorem fnZ_iter {x qual cn fl : Str} {dvs : List V} {kws : List (Str × V)} {st : Stmt} {f : Addr} {fd : FuncData} (F : FunD K x qual (defArgs st) (defBody st) (defScope st) dvs kws f fd) (Sc : FnScope ["self"] ["self"] (defScope st)) (hc : Cls K (He.ga K cn)) (hn : NoAttr K (He.ga K cn) fl)
    (hb : ∀ cdv A outer s H EE, PSs (cxOf CX0 P w K mg base ["self"] qual (defScope st) f cdv A outer s H EE) (defBody st) (tRet (tCB (rIterT K s.heap.objs.size) (tCons (tFld K (tVar 0) fl) tNil)))) :
    FnZ P w K mg base 1 f fd ["self"] (spIt K cn fl) := by
  obtain ⟨oc, od, dV, kV, doc, pm, an, cdv, ct, osl, rfl, lk, hcd, _, _⟩ := F.ex
  refine fnZ_of (k := 0) lk hcd Sc (fun n vs H Q E h => ?_) (fun A outer s H vs Q E gd hr h => ?_)
  · obtain ⟨a, dx, fs, l, zs, rfl, _⟩ := h
    rfl
  · obtain ⟨a, dx, fs, l, zs, rfl, ha, hf, hq, q⟩ := h
    refine ⟨_, hb cdv A outer s H E, ?_⟩
    exact ⟨.ref a, rfl, a, He.ga K cn, dx, fs, .ref l, rfl, ha, hc, hn, hf, l, zs, rfl, hq, q⟩
end
end Qy
set_option Elab.async false
set_option linter.all false
set_option maxRecDepth 100000
set_option maxHeartbeats 400000
namespace Qy
open PySem PySem.Spec PyProof.Rows L2 ClX
section
variable {X : Cx} {pin : List (Option V)} {K : PySem.W.Frag} {S S' H : Hp} {e a b c : Expr} {t ta tb tc tj : TE} {f fj : Fe} {oa ob : Fo} {pos p apos : Pos} {L T F : List It} {ρ ρ2 : Rho} {σ : L2.St} {cn fl : Str} {k : Nat}
theorem uOne {k : Nat} {A : Around} (hr : Room k A) : A.units + 1 < cLine := by have := hr.un; omega
/-! ### list(z) of a text -/
def signsV (z : Str) : List V := z.cps.toList.map fun c => .str ⟨#[c]⟩
theorem vals_get : ∀ {vs : List V} {us : List Value}, vs.length = us.length → (∀ (i : Nat) (u : Value), us[i]? = some u → ∃ v, vs[i]? = some v ∧ RelV v u) → Vals vs us
  | [], [], _, _ => .nil
  | [], _ :: _, h, _ => by cases h
  | _ :: _, [], h, _ => by cases h
  | v :: vs, u :: us, h, k => by
    obtain ⟨v', e, r⟩ := k 0 u rfl
    cases e
    exact .cons r (vals_get (by simpa using h) fun i u' hu => k (i + 1) u' hu)
def rListS (K : PySem.W.Frag) : List V → Hp → VK → Prop := fun xs H Q => ∃ z, xs = [.str z] ∧ z.length ≤ big ∧ ∀ l, H l = none → Q (.ref l) (upd H l (.lst (signsV z)))
theorem call_listS (hc : X.calm = true) : CallR X (.type "list") (rListS X.K) := by
  intro pins s σ H xs us Q I r h
  obtain ⟨z, rfl, hz, q⟩ := h
  obtain ⟨u, rfl, ru⟩ := vals1 r
  obtain ⟨tk, rfl⟩ := ru
  have hsz : z.cps.size ≤ sizeLine := big_le hz
  refine call_list_str (I.ok.hd hc) z tk (fun h' tk' acc c' hk hl hi => ?_) hsz
  refine ⟨.ref s.heap.objs.size, _, I.laid (t' := tk') hk (Nat.le_refl _) (show ObjOk X.prog X.w _ h' _ (.lst (signsV z)) from ⟨by simpa [signsV] using hsz, acc.toList, c', ?_, by simpa using hl⟩), rfl, q _ (I.hok.fresh (Nat.le_refl _))⟩
  refine vals_get (by simp [signsV, hi.1]) fun i u hu => ?_
  obtain ⟨c, w, hc1, rfl⟩ := hi.2 i u (by simpa using hu)
  exact ⟨.str ⟨#[c]⟩, by simp [signsV, hc1], w, rfl⟩
def gListS : OD → Option OD := fun a => match a.rd with
  | some (.str z) => if z.length ≤ big then some (.ol ((signs z).map .st)) else none
  | _ => none
theorem rg_listS : RG1 K (fun x H Q => rListS K [x] H Q) gListS := by
  intro S H L x ox oz Q w e k
  unfold gListS at e
  split at e
  · rename_i z hx
    split at e
    · rename_i hz
      cases e
      have rp : Rp K S x (.str z) := w.at0.plain hx (by simp) (by simp) (by simp)
      cases rp
      refine ⟨z, rfl, hz, fun l h0 => k _ S _ (ex_refl S) (Own.newS w (RpI.all.mpr fun q hq => ?_) (by simp [signsV, signs]) h0)⟩
      unfold signsV signs at hq
      rw [List.zip_map'] at hq
      obtain ⟨c, _, rfl⟩ := List.mem_map.mp hq
      exact .str .nil
    · cases e
  · cases e
def rListQS (K : PySem.W.Frag) : List V → Hp → VK → Prop := fun xs H Q => rListQ K xs H Q ∨ rListS K xs H Q
theorem call_listQS (hc : X.calm = true) : CallR X (.type "list") (rListQS X.K) := CallR.or call_listQ (call_listS hc)
def gListQS : OD → Option OD := gOr1 gList gListS
theorem rg_listQS : RG1 K (fun x H Q => rListQS K [x] H Q) gListQS := rg_list.or rg_listS
/-! ### repr({z: i}) -/
def rRep1 : List V → Hp → VK → Prop := fun xs H Q => ∃ a z i, xs = [.ref a] ∧ H a = some (.dK [(.inr z, .int i)]) ∧ (PyData.dict [(.str z, .int i)]).showable = true ∧ (PyData.dict [(.str z, .int i)]).shown.length ≤ sizeLine ∧ Q (.str (PyData.shown (.dict [(.str z, .int i)]))) H
theorem call_rep1 (hu : X.A.units + 66 < cLine) (hg : X.A.guards = some []) : CallR X (.builtin "repr") rRep1 := by
  intro pins s σ H xs us Q I r h
  obtain ⟨a, z, i, rfl, ha, hsh, hsz, q⟩ := h
  obtain ⟨u, rfl, ru⟩ := vals1 r
  cases ru
  obtain ⟨_, hm, vs, rel, o, es, ep, ho, hx, hd, _, hp, _⟩ := dk_of I.hok ha
  obtain ⟨kv, rfl, h1, h2⟩ : ∃ kv, vs = [kv] ∧ (Sum.inr z : Key) = kv.1 ∧ RelV (.int i) kv.2 := by
    cases rel with
    | cons hh tt =>
      cases tt
      exact ⟨_, rfl, hh.1, hh.2⟩
  obtain ⟨en, he, hk, hv⟩ : ∃ en, es.toList = [en] ∧ (mixKind X.prog X.w).is kv.1 en.key = true ∧ en.val = kv.2 := by
    cases hl : es.toList with
    | nil => rw [hl] at hp; cases hp
    | cons y ys =>
      rw [hl] at hp
      cases hp with
      | cons k1 k2 k3 =>
        cases k3
        exact ⟨y, rfl, k1, k2⟩
  obtain ⟨ti, hti⟩ := h2
  rw [← h1] at hk
  have hkey : ∃ t, en.key = .str z t := by
    rcases keyIs_shape (show keyIs (Sum.inr z) en.key = true from hk) with ⟨j, t, e1, e2⟩ | ⟨y, t, e1, e2⟩
    · cases e1
    · cases e1
      exact ⟨t, e2⟩
  obtain ⟨tz, htz⟩ := hkey
  have rd : Reads s.heap (.ref a) (.dict [(.str z, .int i)]) [a] := by
    have := Reads.dict (kvs := [(.str z, .int i)]) (as := []) (bs := []) ho hx.1 hd (by
      rw [he]
      show ReadsAll s.heap [en.key] [.str z] []
      rw [htz]
      exact .cons (.str z tz) .nil) (by
      rw [he]
      show ReadsAll s.heap [en.val] [.int i] []
      rw [hv, hti]
      exact .cons (.int i ti) .nil)
    simpa using this
  refine repr_of_reads' rd hsh (fun _ z => ?_) hg (by show X.A.units + 2 < cLine; omega) (fun _ _ z => z) (fun h' u tk hk => ⟨.str _, H, I.kept hk, ⟨_, rfl⟩, q⟩) hsz
  have : sysModules = a := by simpa using z
  rw [← this] at hm
  simp at hm
def gRep1 : OD → Option OD := fun o => match o.rd with
  | some (.dK [(.inr z, .int i)]) => if (PyData.dict [(.str z, .int i)]).showable = true ∧ (PyData.dict [(.str z, .int i)]).shown.length ≤ big then some (.st (.str (PyData.shown (.dict [(.str z, .int i)])))) else none
  | _ => none
theorem rg_rep1 : RG1 K (fun x H Q => rRep1 [x] H Q) gRep1 := by
  intro S H L x ox oz Q w e k
  unfold gRep1 at e
  split at e
  · rename_i z i hd
    split at e
    · rename_i hs
      cases e
      obtain ⟨ad, ks, rfl, hA, r⟩ := w.at0.dKr w.le hd
      match ks, r with
      | [(q, v)], r =>
        obtain ⟨e1, e2, _⟩ := r
        cases e1
        cases (show Rp K S v (.int i) from e2)
        exact ⟨ad, z, i, rfl, hA, hs.1, big_le hs.2, k _ S H (ex_refl S) (w.push (.str .nil))⟩
    · cases e
  · cases e
def rReprD (K : PySem.W.Frag) : List V → Hp → VK → Prop := fun xs H Q => rReprQ K xs H Q ∨ rRep1 xs H Q
theorem cr_reprD (hu : X.A.units + 66 < cLine) (hg : X.A.guards = some []) : CallR X (.builtin "repr") (rReprD X.K) := CallR.or (cr_reprQ hu hg) (call_rep1 hu hg)
def gReprD : OD → Option OD := gOr1 gReprQ gRep1
theorem rg_reprD : RG1 K (fun x H Q => rReprD K [x] H Q) gReprD := rg_reprQ.or rg_rep1
end
end Qy
set_option Elab.async false
set_option linter.all false
set_option maxRecDepth 100000
set_option maxHeartbeats 400000
namespace Qy
open PySem PySem.Spec PyProof.Rows L2 ClX
section
variable {X : Cx} {pin : List (Option V)} {K : PySem.W.Frag} {S S' H : Hp} {e a b c : Expr} {t ta tb tc tj : TE} {f fj : Fe} {oa ob : Fo} {pos p apos : Pos} {L T F : List It} {ρ ρ2 : Rho} {σ : L2.St} {cn fl : Str} {k : Nat}
/-! ### xs * n of a list -/
theorem rp_rep {vs : List V} {ds : List D} (hl : vs.length = ds.length) (hr : RpI K S (vs.zip ds)) : ∀ n : Nat, (List.replicate n vs).flatten.length = (List.replicate n ds).flatten.length ∧ RpI K S ((List.replicate n vs).flatten.zip (List.replicate n ds).flatten)
  | 0 => ⟨rfl, .nil⟩
  | n + 1 => by
    obtain ⟨h1, h2⟩ := rp_rep hl hr n
    simp only [List.replicate_succ, List.flatten_cons]
    refine ⟨by rw [List.length_append, List.length_append, hl, h1], ?_⟩
    rw [List.zip_append hl]
    exact RpI.all.mpr fun q hq => by
      rcases List.mem_append.mp hq with z | z
      · exact RpI.all.mp hr q z
      · exact RpI.all.mp h2 q z
def gRepL : OD → OD → Option OD := fun a b => match a.rd, b with
  | some (.lst ds), .st (.int k) => if 0 ≤ k ∧ k < 1000 ∧ ds.length ≤ 1000 then some (.ol (((List.replicate k.toNat ds).flatten).map .st)) else none
  | _, _ => none
theorem rg_repL : RG2 K rRep gRepL := by
  intro S H L x y ox oy oz Q w e k
  unfold gRepL at e
  split at e
  · rename_i ds n hx
    split at e
    · rename_i hc
      cases e
      obtain ⟨a, vs, rfl, ha, hl, hr⟩ := w.at1.lst w.le hx
      have r2 := w.at0.st
      cases r2
      obtain ⟨h1, h2⟩ := rp_rep hl hr n.toNat
      refine ⟨a, n, vs, rfl, rfl, ha, by omega, by omega, ?_, fun p hp => k _ S _ (ex_refl S) (Own.newS w h2 h1 hp)⟩
      have : vs.length * n.toNat ≤ 1000 * 1000 := Nat.mul_le_mul (by omega) (by omega)
      have : 1000 * 1000 ≤ sizeLine := by decide
      omega
    · cases e
  · cases e
def gMulL := gOr2 gMulI gRepL
def rMulL : R2 := fun x y H Q => rI CMul (fun i j => .int (i * j)) x y H Q ∨ rRep x y H Q
theorem op_mulL : OpR X (binaryOp .Mult) rMulL := OpR.or op_mul op_rep
theorem rg_mulL : RG2 K rMulL gMulL := rg_mul.or rg_repL
/-! ### anything in one's own -/
variable {ps : List Str} {mi : Mir}
def rOwnInA (K : PySem.W.Frag) (cn : Str) (sp : Sp) : R2 := fun x y H Q => ∃ a dx fs, y = .ref a ∧ H a = some (.ins (He.ga K cn) dx fs) ∧ sp [y, x] H (fun v H' => ∃ d, v = .bl d ∧ Q (.bl d) H') E0
theorem op_ownInA (c : CalM X.prog X.w X.K X.mg X.base cn "__contains__" k ps mi) (gd : X.A.guards = some []) (hr : Room k X.A) : OpR X (compareOp .In) (rOwnInA X.K cn (spM X.K ps.length mi)) := by
  intro pins s σ H x y v u Q I rx ry h
  obtain ⟨ad, dx, fs, rfl, ha, q⟩ := h
  cases ry
  obtain ⟨f, fd, h1, h2, h3, h4, h5⟩ := c.ex
  obtain ⟨m, hF⟩ := I.fr
  obtain ⟨mA, O1, _⟩ := ins_get I.hok ha
  obtain ⟨od, J, _⟩ := O1.look
  have hl : ([Value.ref ad, v] : List Value).length = ps.length := h5.len _ _ _ _ q
  have hb := h4 s [Value.ref ad, v] I.kIn (by simpa using hl)
  rw [List.append_nil] at hb
  have go := wp_g (run_g (vs := [.ref ad, x]) h5 gd hr pass0 I hb (.cons rfl (.cons rx .nil)) q)
  refine PySem.W.in_K hF I.ok.mod.kin J h1 h2 (wpAny_mono go (fun r z' hz => ?_) fun _ _ y => y)
  obtain ⟨v', H', I', rv, d, hv, q'⟩ := hz
  subst hv
  cases rv
  exact wpAny_truthy_bool ⟨.bl d, H', I', rfl, q'⟩
def gOwnInA (cn : Str) (m : Mir) : OD → OD → Option OD
  | .st x, .st (.ins c fs) => if c = cn then (match m [.st (.ins c fs), .st x] with
    | some (.st (.bl d), outs) => if outs.length = 2 then some (.st (.bl d)) else none
    | _ => none) else none
  | _, _ => none
theorem rg_ownInA : RG2 K (rOwnInA K cn (spM K 2 mi)) (gOwnInA cn mi) := by
  intro S H L x y ox oy oz Q w e k
  unfold gOwnInA at e
  split at e
  · rename_i z c fs
    split at e
    · rename_i hc
      subst hc
      split at e
      · rename_i d outs hm
        split at e
        · rename_i hl
          cases e
          have r1 := w.at1.st
          cases w.at0.st with
          | @ins ad _ dx vs _ _ a1 a2 a3 _ =>
            refine ⟨ad, dx, vs, rfl, w.le _ _ a1, S, L, [.st (.ins c fs), .st z], .st (.bl d), outs, rfl, rfl, hl, w, hm, fun v S' H' e' o' => ?_⟩
            have hv : v = .bl d := by cases o'.known; rfl
            refine ⟨d, hv, k _ S' H' e' ?_⟩
            have o2 : Own K S' H' [] ((v, .st (.bl d)) :: L) := Own.sub o' ⟨its outs (([.ref ad, x] : List V).map some), List.perm_middle.symm⟩
            have o3 : Own K S' H' [] L := o2.tl
            have r1' : Rp K S' (.ref ad) (.ins c fs) := RpI.mono e' (.ins a1 a2 a3 .nil)
            exact ((o3.push (RpI.mono e' r1)).push r1').push (.bl .nil)
        · cases e
      · cases e
    · cases e
  · cases e
end
end Qy
set_option Elab.async false
set_option linter.all false
set_option maxRecDepth 100000
set_option maxHeartbeats 400000
/-! max of three ints; is True, is False of bools. -/
namespace Qy
open PySem PySem.Spec PyProof.Rows L2
def max3 (a b c : Int) : Int := if (if a < b then b else a) < c then c else (if a < b then b else a)
theorem nuMax3_i (a b c : Int) : nuMax3 (.int a) (.int b) (.int c) = some (.int (max3 a b c)) := by
  have h : ∀ i j : Int, nuMax2 (.int i) (.int j) = some (.int (if i < j then j else i)) := fun i j => by
    show some (if decide (i < j) = true then V.int j else V.int i) = _
    by_cases e : i < j
    · simp [e]
    · simp [e]
  show (nuMax2 (.int a) (.int b)).bind (fun m => nuMax2 m (.int c)) = _
  rw [h]
  show nuMax2 (.int (if a < b then b else a)) (.int c) = _
  rw [h]
  rfl
section
variable {X : Cx} {pin : List (Option V)} {K : PySem.W.Frag} {S H : Hp} {e a b c : Expr} {t ta tb tc : TE} {f : Fe} {oa ob : Fo} {pos p apos : Pos} {es : List Expr} {tt : TA} {ff : Fa}
def fMax3 (f : Fa) : Fe := fun ρ => match f ρ with
  | some ([.st (.int a), .st (.int b), .st (.int c)], ρ1) => some (.st (.int (max3 a b c)), ρ1)
  | _ => none
theorem re_max3 (h : RA K pin tt ff) : RE K pin (tCB (rNuC3 nuMax3) tt) (fMax3 ff) := by
  intro S H T ρ σ F Q od ρ' w e k
  unfold fMax3 at e
  split at e
  · rename_i a b c ρ1 q
    cases e
    refine h S H T ρ σ F _ _ _ w q fun vs S' H' x hl w' => ?_
    have ow := w'.own
    rw [List.append_assoc] at ow
    obtain ⟨S2, e2, r2, o2⟩ := ow.freeze
    rw [vals_zip] at r2
    match vs, hl with
    | [v1, v2, v3], _ =>
      have h1 := r2.head
      have h2 := r2.tail.head
      have h3 := r2.tail.tail.head
      cases h1
      cases h2
      cases h3
      exact ⟨.int a, .int b, .int c, _, rfl, nuMax3_i a b c, k _ S2 H' (ex_trans x e2) ((w'.with o2).push (.int .nil))⟩
  · cases e
theorem se_max3 (hcalm : X.calm = true) (hm : X.mg "max" = none) (h : SA X pin [a, b, c] tt ff) (hg : Gl X "max" := by rfl)
    (hs : starEach [a, b, c] X.env = (false, eval a X.env) :: starEach [b, c] X.env := by rfl) (hpl : (backTo pos (starEach [b, c] X.env)).any (·.1) = false := by rfl) : SE X pin (.Call (.Name "max" p) [a, b, c] [] pos) (tCB (rNuC3 nuMax3) tt) (fMax3 ff) :=
  ⟨pe_callB (call_max3Nu hcalm) hg hm (by decide +kernel) h.pe (by decide) (by decide) hs hpl, re_max3 h.rd⟩
theorem op_isBQ : OpR X (compareOp .Is) (rIsBQ false) := by
  intro pins s σ H x y v u Q I rx ry h
  obtain ⟨a, b, h1, h2, q⟩ := h
  refine op_isBl pins s σ H x y v u Q I rx ry ⟨a, b, h1, h2, ?_⟩
  have : (decide (a = b) != false) = decide (a = b) := by cases a <;> cases b <;> rfl
  rw [← this]
  exact q
end
end Qy
set_option Elab.async false
set_option linter.all false
set_option maxRecDepth 100000
set_option maxHeartbeats 400000
/-! for x in [a, b, e]: .. where a, b are locals whose things may be changed by way of x. -/
namespace Qy
open PySem PySem.Spec PyProof.Rows L2
/-- one slot more is held fast -/
def pinAt (pin : List (Option V)) (a : Nat) (v : V) : List (Option V) := (List.range (max pin.length (a + 1))).map fun j => if j = a then some v else (pin[j]?).join
theorem pinAt_iff {pin : List (Option V)} {a : Nat} {v : V} {j : Nat} {u : V} : (pinAt pin a v)[j]? = some (some u) ↔ (j = a ∧ u = v) ∨ (j ≠ a ∧ pin[j]? = some (some u)) := by
  unfold pinAt
  by_cases hj : j < max pin.length (a + 1)
  · rw [List.getElem?_map, List.getElem?_range hj]
    simp only [Option.map_some, Option.some.injEq]
    by_cases h : j = a
    · simp [h, eq_comm]
    · cases pin[j]? with
      | none => simp [h]
      | some o => simp [h]
  · rw [List.getElem?_eq_none (by simpa using hj)]
    have h1 : j ≠ a := by omega
    have h2 : pin[j]? = none := List.getElem?_eq_none (by omega)
    simp [h1, h2]
theorem pinAt_no {pin : List (Option V)} {a : Nat} {v : V} {j : Nat} (hj : j ≠ a) (h : NoPin pin j) : NoPin (pinAt pin a v) j := by
  unfold NoPin
  cases q : (pinAt pin a v)[j]? with
  | none => exact .inl rfl
  | some o =>
    cases o with
    | none => exact .inr rfl
    | some u =>
      rcases pinAt_iff.mp q with z | z
      · exact absurd z.1 hj
      · rcases h with h | h
        · rw [h] at z; cases z.2
        · rw [h] at z; cases z.2
section
variable {X : Cx} {pin : List (Option V)} {K : PySem.W.Frag} {S H : Hp} {T F R : List It} {ρ : Rho} {σ : L2.St} {v : V}
theorem Sat.pinIt {a : Nat} (h : Sat K pin S H T ρ σ F) (hv : σ[a]? = some (some v)) : Sat K (pinAt pin a v) S H T ρ σ F := ⟨h.own, h.wf, h.len, fun i u hi => by
  rcases pinAt_iff.mp hi with z | z
  · rw [z.1, z.2]; exact hv
  · exact h.pin i u z.2⟩
theorem Sat.unpin {a : Nat} (h : Sat K (pinAt pin a v) S H T ρ σ F) (hp : ∀ u, pin[a]? = some (some u) → u = v) : Sat K pin S H T ρ σ F := ⟨h.own, h.wf, h.len, fun i u hi => by
  by_cases e : i = a
  · subst e
    have := hp u hi
    rw [this]
    exact h.pin i v (pinAt_iff.mpr (.inl ⟨rfl, rfl⟩))
  · exact h.pin i u (pinAt_iff.mpr (.inr ⟨e, hi⟩))⟩
def stepO (x : Nat) (fb : Fs) (o : OD) (ρ : Rho) : Option (OD × Rho) := if x < ρ.length then (match fb (ρ.set x (some o)) with
  | some (.nx ρ') => (match ρ'[x]? with
    | some (some o') => some (o', ρ'.set x none)
    | _ => none)
  | _ => none) else none
def fForO (a b : Nat) (fe : Fe) (x : Nat) (fb : Fs) : Fs := fun ρ => match ρ[a]?, ρ[b]? with
  | some (some o1), some (some o2) => (match fe ((ρ.set a none).set b none) with
    | some (o3, ρ1) => (match stepO x fb o1 ρ1 with
      | some (u1, ρ2) => (match stepO x fb o2 ρ2 with
        | some (u2, ρ3) => (match stepO x fb o3 ρ3 with
          | some (u3, ρ4) => some (.nx ((ρ4.set a (some u1)).set b (some u2)))
          | none => none)
        | none => none)
      | none => none)
    | none => none)
  | _, _ => none
theorem stepO_ok {x : Nat} {tb : TS} {fb : Fs} {u u' : OD} {ρ' : Rho} {E : Ends} (hx : NoPin pin x) (hb : RS K (pinAt pin x v) tb fb) (w : Sat K pin S H [] ρ σ ((v, u) :: R)) (e : stepO x fb u ρ = some (u', ρ'))
    (k : ∀ S' H' σ', Ex S S' → Sat K pin S' H' [] ρ' σ' ((v, u') :: R) → E.nx σ' H') : tb E (σ.set x (some v)) H := by
  unfold stepO at e
  split at e
  · rename_i hlt
    have w1 : Sat K pin S H [(v, u)] ρ σ R := w.with (w.own.perm (by
      rw [List.nil_append]
      exact List.perm_middle))
    have w2 := w1.asg hlt hx
    have hs : (σ.set x (some v))[x]? = some (some v) := List.getElem?_set_self (by rw [← w.len]; exact hlt)
    have w3 := w2.pinIt hs
    split at e
    · rename_i ρ'' q
      split at e
      · rename_i o' q2
        cases e
        refine hb S H _ _ R E _ w3 q fun S5 H5 σ5 e5 w5 => ?_
        obtain ⟨v5, hv5, w6⟩ := w5.take q2
        have h5 := w5.pin x v (pinAt_iff.mpr (.inl ⟨rfl, rfl⟩))
        rw [hv5] at h5
        have : v5 = v := Option.some.inj (Option.some.inj h5)
        subst this
        have w7 : Sat K pin S5 H5 [(v5, u')] (ρ''.set x none) σ5 R := w6.unpin (fun z hz => by
          rcases hx with h | h
          · rw [h] at hz; cases hz
          · rw [h] at hz; cases hz)
        exact k S5 H5 σ5 e5 (w7.with (w7.own.perm (by
          rw [List.nil_append]
          show ((v5, u') :: (its (ρ''.set x none) σ5 ++ R)).Perm _
          exact List.perm_middle.symm)))
      · cases e
    · cases e
  · cases e
theorem rs_forO {a b x : Nat} {te : TE} {fe : Fe} {tb : TS} {fb : Fs} (hab : a ≠ b) (hax : a ≠ x) (hbx : b ≠ x) (hx : NoPin pin x) (he : RE K pin te fe)
    (hb : ∀ pin', (∀ j, j ≠ a → j ≠ b → j ≠ x → NoPin pin j → NoPin pin' j) → RS K pin' tb fb) : RS K pin (tFor (iList K (tLst (tCons (tVar a) (tCons (tVar b) (tCons te tNil))))) (gName x) tb) (fForO a b fe x fb) := by
  intro S H ρ σ F E o w e k
  unfold fForO at e
  split at e
  · rename_i o1 o2 q1 q2
    split at e
    · rename_i o3 ρ1 q3
      split at e
      · rename_i u1 ρ2 q4
        split at e
        · rename_i u2 ρ3 q5
          split at e
          · rename_i u3 ρ4 q6
            cases e
            obtain ⟨v1, hv1, w1⟩ := w.take q1
            obtain ⟨v2, hv2, w2⟩ := w1.take (i := b) (o := o2) (by rw [List.getElem?_set_ne hab]; exact q2)
            refine ⟨v1, hv1, v2, hv2, ?_⟩
            refine he S H _ _ σ F _ o3 ρ1 w2 q3 fun v3 S1 H1 e1 w3 => ?_
            refine ⟨by show 3 ≤ sizeLine; exact big_le (by unfold big; omega), fun p hp => ⟨p, rfl, ⟨_, SqL.of upd_same⟩, ?_⟩⟩
            have ow := w3.own.stable (o := .lst [v1, v2, v3]) hp
            have w4 : Sat K pin (upd S1 p (.lst [v1, v2, v3])) (upd H1 p (.lst [v1, v2, v3])) [] ρ1 σ ((v1, o1) :: (v2, o2) :: (v3, o3) :: F) := w3.with (ow.perm (by
              have p1 : ([(v3, o3), (v2, o2), (v1, o1)] : List It).Perm [(v1, o1), (v2, o2), (v3, o3)] := List.reverse_perm [(v1, o1), (v2, o2), (v3, o3)]
              show ((v3, o3) :: (v2, o2) :: (v1, o1) :: (its ρ1 σ ++ F)).Perm (its ρ1 σ ++ ([(v1, o1), (v2, o2), (v3, o3)] ++ F))
              refine .trans ?_ (List.perm_append_comm_assoc _ _ _)
              exact p1.append_right _))
            have he1 : Ex S1 (upd S1 p (.lst [v1, v2, v3])) := ex_new (ex_none w3.le hp)
            have hS : upd S1 p (HO.lst [v1, v2, v3]) p = some (.lst [v1, v2, v3]) := upd_same
            generalize upd S1 p (.lst [v1, v2, v3]) = S2 at *
            generalize upd H1 p (.lst [v1, v2, v3]) = H2 at *
            have w5 := (w4.pinIt hv1).pinIt hv2
            have hxp : NoPin (pinAt (pinAt pin a v1) b v2) x := pinAt_no (Ne.symm hbx) (pinAt_no (Ne.symm hax) hx)
            have hbb : ∀ v, RS K (pinAt (pinAt (pinAt pin a v1) b v2) x v) tb fb := fun v => hb _ fun j h1 h2 h3 h4 => pinAt_no h3 (pinAt_no h2 (pinAt_no h1 h4))
            have fin : ∀ S' H' σ', Ex S2 S' → Sat K (pinAt (pinAt pin a v1) b v2) S' H' [] ρ4 σ' ((v1, u1) :: (v2, u2) :: (v3, u3) :: F) → E.nx σ' H' := fun S' H' σ' ex ws => by
              have hb2 := ws.pin b v2 (pinAt_iff.mpr (.inl ⟨rfl, rfl⟩))
              have hb1 := ws.pin a v1 (pinAt_iff.mpr (.inr ⟨hab, pinAt_iff.mpr (.inl ⟨rfl, rfl⟩)⟩))
              have x1 : Sat K pin S' H' [] ρ4 σ' ((v1, u1) :: (v2, u2) :: (v3, u3) :: F) := (ws.unpin (fun u hu => by
                rcases pinAt_iff.mp hu with z | z
                · exact absurd z.1 (Ne.symm hab)
                · have := w.pin b u z.2
                  rw [hv2] at this
                  exact (Option.some.inj (Option.some.inj this)).symm)).unpin (fun u hu => by
                have := w.pin a u hu
                rw [hv1] at this
                exact (Option.some.inj (Option.some.inj this)).symm)
              have x2 : Sat K pin S' H' [(v1, u1), (v2, u2)] ρ4 σ' F := x1.with (x1.own.sub ⟨[(v3, u3)], by
                rw [List.nil_append]
                show (its ρ4 σ' ++ ([(v1, u1), (v2, u2), (v3, u3)] ++ F)).Perm ([(v3, u3)] ++ ([(v1, u1), (v2, u2)] ++ (its ρ4 σ' ++ F)))
                refine .trans (List.perm_append_comm_assoc _ _ _) ?_
                rw [← List.append_assoc [(v3, u3)]]
                refine List.Perm.append_right _ ?_
                exact (List.perm_append_comm (l₁ := [(v1, u1), (v2, u2)]) (l₂ := [(v3, u3)]))⟩)
              have x3 := (x2.back hb1).back hb2
              exact k S' H' σ' (ex_trans e1 (ex_trans he1 ex)) x3
            refine for_it (n := 3) (walk_list (K := K) (a := p) (xs := [v1, v2, v3])) (fun i σ H => ∃ S', Ex S2 S' ∧ ((i = 0 ∧ Sat K (pinAt (pinAt pin a v1) b v2) S' H [] ρ1 σ ((v1, o1) :: (v2, o2) :: (v3, o3) :: F)) ∨ (i = 1 ∧ Sat K (pinAt (pinAt pin a v1) b v2) S' H [] ρ2 σ ((v1, u1) :: (v2, o2) :: (v3, o3) :: F))
              ∨ (i = 2 ∧ Sat K (pinAt (pinAt pin a v1) b v2) S' H [] ρ3 σ ((v1, u1) :: (v2, u2) :: (v3, o3) :: F)) ∨ (i = 3 ∧ Sat K (pinAt (pinAt pin a v1) b v2) S' H [] ρ4 σ ((v1, u1) :: (v2, u2) :: (v3, u3) :: F)))) ⟨S2, ex_refl S2, .inl ⟨rfl, w5⟩⟩ ?_ ?_ ?_
            · rintro i σ H _ ⟨S', ex, z⟩
              have le : Ex S' H := by
                rcases z with z | z | z | z <;> exact z.2.le
              exact SqL.of (le _ _ (ex _ _ hS))
            · rintro i y σ H Ha hi ⟨S', ex, z⟩ ⟨rfl, hy⟩
              rcases z with ⟨rfl, z⟩ | ⟨rfl, z⟩ | ⟨rfl, z⟩ | ⟨rfl, z⟩
              · cases hy
                exact stepO_ok hxp (hbb v1) z q4 fun S5 H5 σ5 e5 w6 => ⟨S5, ex_trans ex e5, .inr (.inl ⟨rfl, w6⟩)⟩
              · cases hy
                have z' : Sat K (pinAt (pinAt pin a v1) b v2) S' Ha [] ρ2 σ ((v2, o2) :: (v1, u1) :: (v3, o3) :: F) := z.with (z.own.perm ((List.Perm.swap _ _ _).append_left _))
                exact stepO_ok hxp (hbb v2) z' q5 fun S5 H5 σ5 e5 w6 => ⟨S5, ex_trans ex e5, .inr (.inr (.inl ⟨rfl, w6.with (w6.own.perm ((List.Perm.swap _ _ _).append_left _))⟩))⟩
              · cases hy
                have z' : Sat K (pinAt (pinAt pin a v1) b v2) S' Ha [] ρ3 σ ((v3, o3) :: (v1, u1) :: (v2, u2) :: F) := z.with (z.own.perm (perm3.symm.append_left _))
                exact stepO_ok hxp (hbb v3) z' q6 fun S5 H5 σ5 e5 w6 => ⟨S5, ex_trans ex e5, .inr (.inr (.inr ⟨rfl, w6.with (w6.own.perm (perm3.append_left _))⟩))⟩
              · omega
            · rintro σ H ⟨S', ex, z⟩
              rcases z with ⟨h, z⟩ | ⟨h, z⟩ | ⟨h, z⟩ | ⟨h, z⟩
              · simp at h
              · simp at h
              · simp at h
              · exact fin S' H σ ex z
          · cases e
        · cases e
      · cases e
    · cases e
  · cases e
end
end Qy
namespace Qy
open PySem PySem.Spec PyProof.Rows L2
section
variable {X : Cx} {pin : List (Option V)} {K : PySem.W.Frag}
theorem ss_forO {a b x : Nat} {na nb nx : Str} {e : Expr} {te : TE} {fe : Fe} {body : List Stmt} {tb : TS} {fb : Fs} {pa pb px lp pos : Pos} (hp : PassesOwn (model X.prog X.w) X.A X.env X.xe) (hc : X.calm = true) (hab : a ≠ b) (hax : a ≠ x) (hbx : b ≠ x) (hN : X.N.Nodup) (hx : NoPin pin x)
    (he : SE X pin e te fe) (hb : ∀ pin', (∀ j, j ≠ a → j ≠ b → j ≠ x → NoPin pin j → NoPin pin' j) → SB X pin' body tb fb)
    (ha1 : X.N[a]? = some na := by rfl) (ha2 : Vis X.env.scope na := by first | exact Or.inl rfl | exact Or.inr (Or.inl rfl) | exact Or.inr (Or.inr rfl)) (ha3 : (na == ("__debug__" : Str)) = false := by decide) (ha4 : (na == ("__classdict__" : Str)) = false := by decide)
    (hb1 : X.N[b]? = some nb := by rfl) (hb2 : Vis X.env.scope nb := by first | exact Or.inl rfl | exact Or.inr (Or.inl rfl) | exact Or.inr (Or.inr rfl)) (hb3 : (nb == ("__debug__" : Str)) = false := by decide) (hb4 : (nb == ("__classdict__" : Str)) = false := by decide)
    (hi : X.N[x]? = some nx := by rfl) (hl : Loc X.env.scope nx := by first | exact Or.inl rfl | exact Or.inr rfl) (hf : X.fn nx = true ∨ X.env.scope.names.lookup nx = some .local := by first | exact .inl rfl | exact .inr rfl | assumption)
    (s1 : starEach [.Name na pa, .Name nb pb, e] X.env = (false, eval (.Name na pa) X.env) :: starEach [.Name nb pb, e] X.env := by rfl) (s2 : starEach [.Name nb pb, e] X.env = (false, eval (.Name nb pb) X.env) :: starEach [e] X.env := by rfl) (s3 : starEach [e] X.env = (false, eval e X.env) :: starEach [] X.env := by rfl)
    (hs : ∀ z, foldedSetIterable (.List [.Name na pa, .Name nb pb, e] lp) X.env z = pure z := by intro _; rfl) (hK : X.K = K := by rfl) :
    SS X pin (.For (.Name nx px) (.List [.Name na pa, .Name nb pb, e] lp) body [] pos) (tFor (iList K (tLst (tCons (tVar a) (tCons (tVar b) (tCons te tNil))))) (gName x) tb) (fForO a b fe x fb) := by
  subst hK
  exact ⟨ps_for hp hc (pi_list (pe_lst (pa_cons (pe_var ha1 ha2 ha3 ha4) (pa_cons (pe_var hb1 hb2 hb3 hb4) (pa_cons he.pe pa_nil s3) s2) s1))) (pg_name hN hi hl hf) (hb pin fun _ _ _ _ h => h).pe hs, rs_forO hab hax hbx hx he.rd fun pin' h => (hb pin' h).rd⟩
end
end Qy
set_option Elab.async false
set_option linter.all false
set_option maxRecDepth 100000
set_option maxHeartbeats 3200000
namespace Qy
open PySem PySem.Spec PyProof.Rows L2 ClX
/-! ### sorted(set(x)) of a list of numbers -/
section
variable {P : Program} {w : World} {A : Around} {E : Value → Shared → Prop} {s : Shared}
/-- the empty set as it is made -/
abbrev set0 (w : World) : Obj := { cls := .type "set", dict := none, data := .set #[] 0 (.fresh 0 0 (!w.params.followText "set-order")) }
/-- set(x): a new set, then what its __init__ does with x -/
theorem set_by_init {x : Value} {Q : Value → Shared → Prop} (hh : A.handled = none)
    (h : ∀ A' : Around, A'.handled = none → codeAny (model P w) A' (.call (.builtin "set.__init__") ⟨[.ref s.heap.objs.size, x], []⟩) (wants (fun r s₂ => r = .none ∧ Q (.ref s.heap.objs.size) s₂) E) { s with heap := s.heap.push (set0 w) }) :
    wpAny (model P w) A (call (.type "set") [x]) Q E s := by
  have T := PySem.F.called_set
  obtain ⟨c, tl, hmro⟩ := T.mro
  have t1 := T.made
  have t2 := T.sub
  have t3 := T.notType
  have t4 := T.canCreate
  have t5 := PySem.F.typeCall_set_1 x
  refine wpAny_call (codeAny_of_tree ?_)
  show wpAny _ _ (callAny (.type "set") _) _ _ _
  refine wpAny_pure ⟨Code.quiet_builtin _ (by decide +kernel), codeAny_builtin PySem.F.entry_type_call ?_⟩
  rw [Around.under_plain (weight_type_call_type "set" [x] []) rfl]
  repeat (any_goals (first | assumption | wp_step))
  refine codeAny_mono (code_set_led1 x (E := E) (Q₁ := fun v s1 => v = .ref s.heap.objs.size ∧ s1 = { s with heap := s.heap.push (set0 w) }) ⟨rfl, rfl⟩) fun r s1 hr => ?_
  cases r with
  | error e => exact hr
  | ok fl =>
    cases fl with
    | ret v =>
      obtain ⟨rfl, rfl⟩ := hr
      have hn : (s.heap.push (set0 w)).get? s.heap.objs.size = some (set0 w) := Heap.get?_push_size _ rfl
      have hT : Shared.TypeIs { s with heap := s.heap.push (set0 w) } (.ref s.heap.objs.size) "set" := ⟨_, hn, rfl⟩
      have i1 := T.init.lookup
      have i2 := T.init.bind (.ref s.heap.objs.size)
      repeat (any_goals (first | assumption | wp_step))
      refine codeAny_mono (h _ ?_) fun r2 s2 hr2 => ?_
      · simp [hh]
      · cases r2 with
        | error e => exact hr2
        | ok fl2 =>
          cases fl2 with
          | ret r =>
            obtain ⟨rfl, q⟩ := hr2
            repeat (any_goals (first | assumption | wp_step))
          | _ => exact hr2.elim
    | _ => exact hr.elim
/-- set.__init__ of a new set and a list of numbers -/
theorem set_init_list {S l : Addr} {items : Array Value} {ns : List Int} {Q : Value → Shared → Prop} (hh : A.handled = none) (hS : s.heap.get? S = some (set0 w)) (hl : s.heap.IsList l items)
    (hi : IntsAre items.toList ns) (hb : ns.length + 1 < scanBound)
    (h : ∀ (h' : Heap) (tk c : Nat), SetR w h' S (fun j => decide (j ∈ ns)) c → c ≤ ns.length → (∀ b o, b ≠ S → s.heap.get? b = some o → h'.get? b = some o) → Q .none { s with heap := h', toks := tk }) :
    codeAny (model P w) A (.call (.builtin "set.__init__") ⟨[.ref S, .ref l], []⟩) (wants Q E) s := by
  have T := PySem.F.called_set
  have hT : Shared.TypeIs s (.ref S) "set" := ⟨_, hS, rfl⟩
  have hz : items.size = ns.length := by
    have q := IntsAre.length hi
    rwa [Array.length_toList] at q
  have hne : l ≠ S := by
    rintro rfl
    obtain ⟨o, ho, hc, _⟩ := hl
    rw [hS] at ho
    cases ho
    have z : Value.type "set" = Value.type "list" := hc
    exact absurd z (by decide)
  refine codeAny_call_builtin (R := wants Q E) T.init.plain PySem.F.entry_set_init (check_set_init_1 hT ?_)
  have hl1 := hl
  obtain ⟨⟨cls, dd, data, sl⟩, ho, hc, nl, hd⟩ := hl
  simp only at hc hd
  subst hc
  subst hd
  have e1 := PySem.F.sub_list_set
  have e2 := PySem.F.sub_list_frozenset
  have e3 : (Value.type "list" == Value.type "dict") = false := by decide
  have hSlt : S < s.heap.objs.size := Heap.lt_size hS
  have hllt : l < s.heap.objs.size := Heap.lt_size ho
  unfold Builtin.«set.__init__» noKeywords Builtin.Frozenset.updateFrom
  generalize hPI : pyIter = PI
  wp_walk
  subst hPI
  refine wpAny_pyIter_list hl1 ?_
  refine wpAny_bind (wpAny_runValue ?_)
  have a2 : A.in1.in1.handled = none := by simp [hh]
  have hlI : l ≠ s.heap.objs.size := Nat.ne_of_lt hllt
  have hSI : S ≠ s.heap.objs.size := Nat.ne_of_lt hSlt
  have hat : ∀ (i : Nat) (v : Value), items[i]? = some v → ∃ k t, ns[i]? = some k ∧ v = .int k t := fun i v hv => by
    have hin : i < ns.length := hz ▸ (Array.getElem?_eq_some_iff.mp hv).1
    obtain ⟨t, e⟩ := IntsAre.int_at hi i v (by rw [Array.getElem?_toList]; exact hv)
    rw [List.getD_eq_getElem?_getD, List.getElem?_eq_getElem hin] at e
    exact ⟨_, t, List.getElem?_eq_getElem hin, e⟩
  have hw0 : (s.heap.push { cls := .type "list_iterator", data := .fields #[.ref l, .int 0 0] }).get? S = some (set0 w) := Heap.get?_push_of_some _ hS
  refine set_update_ints ((Walks.list a2 _ l hlI items).toS) S (fun m => ?_) ns hz hb hat _ 0 _ rfl (Nat.zero_le _) ⟨⟨_, Heap.get?_push_size _ rfl, rfl, rfl⟩, hl1.push _⟩ ⟨0, Nat.le_refl 0, setR_new_at hw0⟩ fun s' c hm hc hR => ?_
  · rcases List.mem_cons.mp m with e | e
    · exact hSI e
    · exact hne (List.mem_singleton.mp e).symm
  · obtain ⟨h', g', d', tk', os'⟩ := s'
    have z1 : g' = s.gens := hm.gens
    have z2 : d' = s.drawn := hm.drawn
    have z3 : os' = s.os := hm.os
    subst z1
    subst z2
    subst z3
    refine wpAny_pure (wpAny_pure (h h' tk' c hR (hz ▸ hc) fun b o hb e => hm.heap b o ?_ (Heap.get?_push_of_some _ e)))
    intro hx
    rcases List.mem_cons.mp hx with z | z
    · exact hb z
    · exact absurd (Heap.lt_size e) (by rw [List.mem_singleton.mp z]; exact Nat.lt_irrefl _)
/-- set(x) of a list of numbers -/
theorem set_list {l : Addr} {items : Array Value} {ns : List Int} {Q : Value → Shared → Prop} (hh : A.handled = none) (hl : s.heap.IsList l items) (hi : IntsAre items.toList ns) (hb : ns.length + 1 < scanBound)
    (h : ∀ (h' : Heap) (tk c : Nat), SetR w h' s.heap.objs.size (fun j => decide (j ∈ ns)) c → c ≤ ns.length → (∀ b o, s.heap.get? b = some o → h'.get? b = some o) → Q (.ref s.heap.objs.size) { s with heap := h', toks := tk }) :
    wpAny (model P w) A (call (.type "set") [.ref l]) Q E s := by
  refine set_by_init hh fun A' ha => set_init_list (Q := fun r s₂ => r = .none ∧ Q (.ref s.heap.objs.size) s₂) ha (Heap.get?_push_size _ rfl) (hl.push _) hi hb fun h' tk c R hc k => ⟨rfl, h h' tk c R hc fun b o e => ?_⟩
  exact k b o (Nat.ne_of_lt (Heap.lt_size e)) (Heap.get?_push_of_some _ e)
end
/-! ### each number once, in sequence -/
def insU (k : Int) : List Int → List Int
  | [] => [k]
  | y :: r => if k < y then k :: y :: r else if k = y then y :: r else y :: insU k r
def uniI (ns : List Int) : List Int := ns.foldr insU []
theorem insU_mem {k j : Int} : ∀ {l : List Int}, j ∈ insU k l ↔ j = k ∨ j ∈ l
  | [] => by simp [insU]
  | y :: r => by
    have ih := insU_mem (k := k) (j := j) (l := r)
    unfold insU
    split
    · simp
    · split
      · rename_i e
        subst e
        simp
      · simp only [List.mem_cons, ih]
        constructor
        · rintro (h | h | h)
          · exact .inr (.inl h)
          · exact .inl h
          · exact .inr (.inr h)
        · rintro (h | h | h)
          · exact .inr (.inl h)
          · exact .inl h
          · exact .inr (.inr h)
theorem insU_lt {k : Int} : ∀ {l : List Int}, l.Pairwise (· < ·) → (insU k l).Pairwise (· < ·)
  | [], _ => by simp [insU]
  | y :: r, h => by
    obtain ⟨h1, h2⟩ := List.pairwise_cons.mp h
    unfold insU
    split
    · rename_i hk
      refine List.pairwise_cons.mpr ⟨fun j hj => ?_, h⟩
      rcases List.mem_cons.mp hj with rfl | hj
      · exact hk
      · have := h1 j hj
        omega
    · split
      · exact h
      · refine List.pairwise_cons.mpr ⟨fun j hj => ?_, insU_lt h2⟩
        rcases insU_mem.mp hj with rfl | hj
        · omega
        · exact h1 j hj
theorem uniI_mem {j : Int} : ∀ {ns : List Int}, j ∈ uniI ns ↔ j ∈ ns
  | [] => by simp [uniI]
  | n :: ns => by
    show j ∈ insU n (uniI ns) ↔ _
    rw [insU_mem, uniI_mem, List.mem_cons]
theorem uniI_lt : ∀ ns : List Int, (uniI ns).Pairwise (· < ·)
  | [] => List.Pairwise.nil
  | n :: ns => insU_lt (uniI_lt ns)
theorem lt_same : ∀ {xs ys : List Int}, xs.Pairwise (· < ·) → ys.Pairwise (· < ·) → (∀ k, k ∈ xs ↔ k ∈ ys) → xs = ys
  | [], [], _, _, _ => rfl
  | [], y :: ys, _, _, h => absurd ((h y).mpr List.mem_cons_self) (by simp)
  | x :: xs, [], _, _, h => absurd ((h x).mp List.mem_cons_self) (by simp)
  | x :: xs, y :: ys, hx, hy, h => by
    obtain ⟨x1, x2⟩ := List.pairwise_cons.mp hx
    obtain ⟨y1, y2⟩ := List.pairwise_cons.mp hy
    have e : x = y := by
      rcases List.mem_cons.mp ((h x).mp List.mem_cons_self) with e | m
      · exact e
      · rcases List.mem_cons.mp ((h y).mpr List.mem_cons_self) with e | m2
        · exact e.symm
        · have := y1 x m
          have := x1 y m2
          omega
    subst e
    rw [lt_same x2 y2 fun k => ⟨fun m => ?_, fun m => ?_⟩]
    · rcases List.mem_cons.mp ((h k).mp (List.mem_cons_of_mem _ m)) with e | m2
      · have := x1 k m
        omega
      · exact m2
    · rcases List.mem_cons.mp ((h k).mpr (List.mem_cons_of_mem _ m)) with e | m2
      · have := y1 k m
        omega
      · exact m2
section
variable {X : Cx} {pin : List (Option V)} {K : PySem.W.Frag} {S S' H : Hp} {e a b c : Expr} {t ta tb tc tj : TE} {f fj : Fe} {oa ob : Fo} {pos p p2 q apos : Pos} {L T F : List It} {ρ ρ2 : Rho} {σ : L2.St}
def rSetL (w : World) (K : PySem.W.Frag) : List V → Hp → VK → Prop := fun vs H Q => ∃ (a : Addr) (ns : List Int), vs = [.ref a] ∧ SqL K H a (ns.map V.int) ∧ ns.length < 64 ∧
  ∀ (p : Addr) (c : Nat), c ≤ ns.length → H p = none → Q (.ref p) (upd H p (SetO w p (fun j => decide (j ∈ ns)) c))
theorem cr_setL (hc : X.calm = true) : CallR X (.type "set") (rSetL X.w X.K) := by
  intro pins s σ H vs us Q I r h
  obtain ⟨a, ns, rfl, hs, hl, q⟩ := h
  obtain ⟨its, rv, hL, _⟩ := I.list hs
  rw [Vals.ref1 r]
  refine set_list (I.ok.hd hc) hL.isList (by simpa using ints_of_vals rv) (by unfold scanBound; omega) fun h' tk c R hcn k => ?_
  exact ⟨.ref _, upd H s.heap.objs.size (SetO X.w s.heap.objs.size (fun j => decide (j ∈ ns)) c), I.laid (t' := tk) k (Nat.le_refl _) (setO_new R), rfl, q _ _ hcn (I.hok.fresh (Nat.le_refl _))⟩
/-- sorted(set(x)) -/
def rSortSet (w : World) (K : PySem.W.Frag) : V → Hp → VK → Prop := fun x H Q => rSetL w K [x] H fun y H2 => rSortedSet w [y] H2 Q
def gSortSet : OD → Option OD := fun a => match a.rd with
  | some (.lst ds) => (match intsOf ds with
    | some ns => if ns.length < 64 then some (.ol ((uniI ns).map fun i => .st (.int i))) else none
    | none => none)
  | _ => none
theorem rg_sortSet {w : World} : RG1 K (rSortSet w K) gSortSet := by
  intro S H L x ox oz Q o e k
  unfold gSortSet at e
  split at e
  · rename_i ds hd
    split at e
    · rename_i ns hns
      split at e
      · rename_i hl
        cases e
        obtain ⟨a, vs, rfl, ha, hlen, hr⟩ := o.at0.lst o.le hd
        rw [ints_eq hns] at hlen hr
        have hv := rp_ints (by simpa using hlen) hr
        subst hv
        refine ⟨a, ns, rfl, SqL.of ha, hl, fun p c hc hp => ⟨p, _, c, rfl, if_pos rfl, by omega, fun ys p2 h1 h2 _ hp2 => ?_⟩⟩
        have ey : ys = uniI ns := lt_same h1 (uniI_lt ns) fun j => (h2 j).trans (by rw [decide_eq_true_eq, uniI_mem])
        subst ey
        refine k _ S _ (ex_refl S) ?_
        have := Own.newS (ds := (uniI ns).map D.int) (o.alloc hp) (rpi_ints (uniI ns)) (by simp) hp2
        rw [List.map_map] at this
        exact this
      · cases e
    · cases e
  · cases e
theorem se_sortSet (hc : X.calm = true) (hm : X.mg "sorted" = none) (hm2 : X.mg "set" = none) (ha : SO X pin a ta oa) (hg : Gl X "sorted" := by rfl) (hg2 : Gl X "set" := by rfl)
    (hs : starEach [a] X.env = (false, eval a X.env) :: starEach [] X.env := by rfl)
    (hs2 : starEach [.Call (.Name "set" p2) [a] [] q] X.env = (false, eval (.Call (.Name "set" p2) [a] [] q) X.env) :: starEach [] X.env := by rfl) :
    SE X pin (.Call (.Name "sorted" p) [.Call (.Name "set" p2) [a] [] q] [] pos) (tCB (rSortedSet X.w) (tCons (tCB (rSetL X.w X.K) (tCons ta tNil)) tNil)) (fUn gSortSet oa) :=
  ⟨pe_callB (cr_sortedSet hc) hg hm PyProof.Rows.boot_sorted (pa_cons (pe_callTy (cr_setL hc) hg2 hm2 PyProof.Rows.boot_set (pa_cons ha.pe pa_nil hs) (by decide) (by decide) hs rfl) pa_nil hs2) (by decide) (by decide) hs2 rfl, re_un (r := rSortSet X.w X.K) ha.rd rg_sortSet⟩
/-! ### list(range(i, j)) -/
def fLRg2 (f g : Fe) : Fe := fun ρ => match f ρ with
  | some (.st (.int i), ρ1) => (match g ρ1 with
    | some (.st (.int j), ρ2) => if i ≤ j ∧ 0 ≤ i ∧ j ≤ 1000 then some (.ol ((rngD i (j - i).toNat).map .st), ρ2) else none
    | _ => none)
  | _ => none
theorem se_listRg2 {g : Fe} {p1 : Pos} (hm : X.mg "list" = none) (hm2 : X.mg "range" = none) (hc : X.calm = true) (ha : SE X pin a ta f) (hb : SE X pin b tb g) (hg : Gl X "list" := by rfl) (hg2 : Gl X "range" := by rfl) (na : starEach [a, b] X.env = (false, eval a X.env) :: starEach [b] X.env := by rfl)
    (nb : starEach [b] X.env = (false, eval b X.env) :: starEach [] X.env := by rfl) (hp : (backTo p2 (starEach [b] X.env)).any (·.1) = false := by rfl)
    (na2 : starEach [.Call (.Name "range" p1) [a, b] [] p2] X.env = (false, eval (.Call (.Name "range" p1) [a, b] [] p2) X.env) :: starEach [] X.env := by rfl) : SE X pin (.Call (.Name "list" p) [.Call (.Name "range" p1) [a, b] [] p2] [] pos) (tLstRg (tRg2 ta tb)) (fLRg2 f g) := by
  refine ⟨pe_listRg hc hg hm (prg_2 hg2 hm2 ha.pe hb.pe na nb hp) na2, ?_⟩
  intro S H T ρ σ F Q od ρ' w q k
  unfold fLRg2 at q
  split at q
  · rename_i i ρ1 q1
    split at q
    · rename_i j ρ2 q2
      split at q
      · rename_i hb2
        cases q
        refine ha.rd S H T ρ σ F _ _ _ w q1 fun v S1 H1 e1 w1 => ?_
        refine hb.rd S1 H1 _ ρ1 σ F _ _ _ w1 q2 fun u S2 H2 e2 w2 => ?_
        cases w2.known
        cases w2.tl.known
        refine ⟨i, j, rfl, rfl, RgOk.of_le (by omega) (by omega) (by omega) (by omega), fun q hq => k _ S2 _ (ex_trans e1 e2) ?_⟩
        have er : rgV i j = ((List.range (j - i).toNat).map fun (n : Nat) => (i + (n : Int))).map V.int := by
          unfold rgV
          rw [List.map_map]
          rfl
        have ed : rngD i (j - i).toNat = ((List.range (j - i).toNat).map fun (n : Nat) => (i + (n : Int))).map D.int := by
          unfold rngD
          rw [List.map_map]
          rfl
        rw [er, ed]
        have w3 := w2.tl.tl
        exact w3.with (Own.newS w3.own (rpi_ints _) (by simp) hq)
      · cases q
    · cases q
  · cases q
end
end Qy
set_option Elab.async false
set_option linter.all false
set_option maxRecDepth 100000
set_option maxHeartbeats 3200000
namespace Qy
open PySem PySem.Spec PyProof.Rows L2 ClX
/-! ### a text read backwards -/
def revT (x : Str) : Str := ⟨x.cps.toList.reverse.toArray⟩
theorem revT_len (x : Str) : (revT x).length = x.length := by simp [revT, Str.length]
theorem made_rev (x : Str) (t u : Tok) : sliceMade x t none none (some (-1, u)) = .str (revT x) := by
  unfold sliceMade slicePicked
  rw [if_neg (by
    have z : (((some ((-1 : Int), u)).map (·.1)).getD 1 == 1) = false := rfl
    rw [z]
    simp)]
  show Made.str ⟨((Builtin.Str.strSliceIndices none none (-1) x.length).filterMap (x.cps[·]?)).toArray⟩ = _
  rw [picked_rev, PySem.W.krv_range, List.filterMap_reverse]
  have z : x.length = x.cps.size := rfl
  rw [z, PySem.W.krv_all]
  rfl
section
variable {X : Cx} {pin : List (Option V)} {K : PySem.W.Frag} {S S' H : Hp} {e a b c : Expr} {t ta tb tc tj : TE} {f fj : Fe} {oa ob : Fo} {pos p p2 q apos : Pos} {L T F : List It} {ρ ρ2 : Rho} {σ : L2.St}
def rRevS : V → Hp → VK → Prop := fun x H Q => ∃ a : Str, x = .str a ∧ a.length ≤ big ∧ Q (.str (revT a)) H
theorem pe_revS {k : Nat} {p1 p2 p3 : Pos} (he : PE X e t) : PE X (.Subscript e (.Slice none none (some (.UnaryOp .USub (.Constant (.int 1) k p1) p2)) p3) pos) (tUn rRevS t) := by
  refine ⟨fun pins s σ H Q I h => Subscript_ (thn (he.run pins s σ H _ I h) fun v s1 ⟨x, H1, I1, r1, q1⟩ => ?_)⟩
  obtain ⟨z, ex, hz, q⟩ := q1
  subst ex
  obtain ⟨tk, rfl⟩ := (show ∃ t, v = Value.str z t from r1)
  have step : PO X (some (.UnaryOp .USub (.Constant (.int 1) k p1) p2)) (tPart (tUn (rU fun i => .int (-i)) (tC (.int 1)))) := po_some (pe_un un_neg pe_int)
  refine wpAny_Slice (thn (po_none.run pins s1 σ H1 (fun o H2 => o = none ∧ H2 = H1) I1 ⟨rfl, rfl⟩) fun va s2 ⟨_, H2, I2, pa, ea, e2⟩ => ?_)
  subst ea e2
  refine thn (po_none.run pins s2 σ H2 (fun o H3 => o = none ∧ H3 = H2) I2 ⟨rfl, rfl⟩) fun vb s3 ⟨_, H3, I3, pb, eb, e3⟩ => ?_
  subst eb e3
  refine thn (step.run pins s3 σ H3 (fun o H4 => o = some (-1) ∧ H4 = H3) I3 ⟨1, rfl, -1, rfl, rfl, rfl⟩) fun vc s4 ⟨_, H4, I4, pc, ec, e4⟩ => ?_
  subst ec e4
  obtain ⟨u, rfl⟩ : ∃ u, vc = Value.int (-1) u := by cases pc; exact ⟨_, rfl⟩
  obtain rfl : va = Value.none := by cases pa; rfl
  obtain rfl : vb = Value.none := by cases pb; rfl
  have J : L2.Inv X pins σ H4 { s4 with heap := s4.heap.push { cls := .type "slice", data := .fields #[.none, .none, .int (-1) u] } } := I4.kept (t' := s4.toks) fun b ob z => Heap.get?_push_of_some _ z
  show wpAny (model X.prog X.w) X.A (subscriptTail e (.Slice none none (some (.UnaryOp .USub (.Constant (.int 1) k p1) p2)) p3) (.str z tk) (.ref s4.heap.objs.size)) (EP X pins σ Q) X.xe { s4 with heap := s4.heap.push { cls := .type "slice", data := .fields #[.none, .none, .int (-1) u] } }
  refine tail_any (ops := [.str z tk, .ref s4.heap.objs.size]) (typeIs_str _ _ _) PySem.F.slot_str_getitem.lookup ?_ (by with_unfolding_all rfl)
  refine wpAny_getItem_str_slice (l := none) (u := none) (st := some (-1, u)) ⟨_, Heap.get?_push_size _ rfl, rfl, rfl⟩ (by rfl) ?_
  rw [made_rev]
  exact ⟨by rw [revT_len]; exact Nat.le_trans hz (by decide), ⟨.str (revT z), H4, J.tok _, ⟨_, rfl⟩, q⟩⟩
def gRevS : OD → Option OD := fun o => match o with
  | .st (.str z) => if z.length ≤ big then some (.st (.str (revT z))) else none
  | _ => none
theorem rg_revS : RG1 K rRevS gRevS := by
  intro S H L x ox oz Q w e k
  unfold gRevS at e
  split at e
  · rename_i z
    split at e
    · rename_i hz
      cases e
      have hx : x = .str z := by cases w.at0.st; rfl
      subst hx
      exact ⟨z, rfl, hz, k _ S H (ex_refl S) (w.push (.str .nil))⟩
    · cases e
  · cases e
theorem se_revS {k : Nat} {p1 p2 p3 : Pos} (h : SO X pin e t oa) : SE X pin (.Subscript e (.Slice none none (some (.UnaryOp .USub (.Constant (.int 1) k p1) p2)) p3) pos) (tUn rRevS t) (fUn gRevS oa) := ⟨pe_revS h.pe, re_un h.rd rg_revS⟩
/-! ### text.index(sign), where it is found -/
def rIdxS : V → List V → Hp → VK → Prop := fun x xs H Q => ∃ a b i rest, x = .str a ∧ xs = [.str b] ∧ Builtin.Str.occurrences a b 0 a.length 1 = i :: rest ∧ Q (.int (i : Nat)) H
def gIdxS : OD → OD → Option OD := fun x y => match x, y with
  | .st (.str a), .st (.str b) => (match Builtin.Str.occurrences a b 0 a.length 1 with
    | i :: _ => some (.st (.int (i : Nat)))
    | [] => none)
  | _, _ => none
theorem re_idxS (ha : RO K pin ta oa) (hb : RO K pin tb ob) : RE K pin (L2.tM1 rIdxS ta tb) (fBin gIdxS oa ob) := by
  intro S H T ρ σ F Q od ρ' w e k
  unfold fBin at e
  split at e
  · rename_i ox ρ1 q1
    split at e
    · rename_i oy ρ2 q2
      split at e
      · rename_i oz q3
        cases e
        unfold gIdxS at q3
        split at q3
        · rename_i z y
          split at q3
          · rename_i i rest ho
            cases q3
            refine ha S H T ρ σ F _ _ ρ1 w q1 fun x S1 H1 e1 w1 rs1 => ?_
            have hx : x = .str z := by cases w1.known; rfl
            subst hx
            refine ⟨⟨z, rfl⟩, hb S1 H1 _ ρ1 σ F _ _ ρ2 w1 q2 fun u S2 H2 e2 w2 rs2 => ?_⟩
            have hy : u = .str y := by cases w2.known; rfl
            subst hy
            refine ⟨z, y, i, rest, rfl, rfl, ho, ?_⟩
            have o3 : Own K S2 H2 [] ((V.int (i : Nat), .st (.int (i : Nat))) :: (V.str y, .st (.str y)) :: (V.str z, .st (.str z)) :: (T ++ (its ρ2 σ ++ F))) := w2.own.push (.int .nil)
            have zz : Sat K pin S2 H2 ((V.str y, .st (.str y)) :: (V.str z, .st (.str z)) :: (V.int (i : Nat), .st (.int (i : Nat))) :: T) ρ2 σ F := w2.with (o3.perm perm3)
            exact k _ S2 H2 (ex_trans e1 e2) (rs1 _ _ _ _ _ (rs2 _ _ _ _ _ zz))
          · cases q3
        · cases q3
      · cases e
    · cases e
  · cases e
theorem se_idxS (ha : SO X pin a ta oa) (hb : SO X pin b tb ob) (hs : starEach [b] X.env = [(false, eval b X.env)] := by rfl) (hbase : attributeBase a "index" X.env (eval a X.env) = eval a X.env := by rfl) (hline : (apos.endLine == pos.line) = true := by rfl) :
    SE X pin (.Call (.Attribute a "index" apos) [b] [] pos) (L2.tM1 rIdxS ta tb) (fBin gIdxS oa ob) :=
  ⟨L2.pe_m1 F.slot_str_index F.type_str_index mt_sindex ha.pe hb.pe hs hbase hline, re_idxS ha.rd hb.rd⟩
end
/-! ### len(set(x)) of a list of texts -/
def uniS (l : List Str) : List Str := l.foldl (fun acc x => if x ∈ acc then acc else acc ++ [x]) []
theorem uniS_snoc (l : List Str) (x : Str) : uniS (l ++ [x]) = if x ∈ uniS l then uniS l else uniS l ++ [x] := by
  unfold uniS
  rw [List.foldl_append]
  rfl
theorem uniG_mem : ∀ {l acc : List Str} {x : Str}, x ∈ l.foldl (fun acc x => if x ∈ acc then acc else acc ++ [x]) acc ↔ x ∈ acc ∨ x ∈ l
  | [], acc, x => by simp
  | y :: l, acc, x => by
    rw [List.foldl_cons, uniG_mem, List.mem_cons]
    split
    · rename_i h
      constructor
      · rintro (h2 | h2)
        · exact .inl h2
        · exact .inr (.inr h2)
      · rintro (h2 | rfl | h2)
        · exact .inl h2
        · exact .inl h
        · exact .inr h2
    · rw [List.mem_append, List.mem_singleton, or_assoc]
theorem uniS_mem {l : List Str} {x : Str} : x ∈ uniS l ↔ x ∈ l := by
  unfold uniS
  rw [uniG_mem]
  simp
theorem uniG_len : ∀ {l acc : List Str}, (l.foldl (fun acc x => if x ∈ acc then acc else acc ++ [x]) acc).length ≤ acc.length + l.length
  | [], acc => by simp
  | y :: l, acc => by
    rw [List.foldl_cons]
    have := uniG_len (l := l) (acc := if y ∈ acc then acc else acc ++ [y])
    have h2 : (if y ∈ acc then acc else acc ++ [y]).length ≤ acc.length + 1 := by split <;> simp
    rw [List.length_cons]
    omega
theorem uniS_len {l : List Str} : (uniS l).length ≤ l.length := by
  have := uniG_len (l := l) (acc := [])
  simpa [uniS] using this
theorem uniG_nd : ∀ {l acc : List Str}, (acc ++ l).Nodup → l.foldl (fun acc x => if x ∈ acc then acc else acc ++ [x]) acc = acc ++ l
  | [], acc, _ => by simp
  | y :: l, acc, h => by
    have h1 : y ∉ acc := fun m => (List.nodup_append.mp h).2.2 y m y List.mem_cons_self rfl
    rw [List.foldl_cons, if_neg h1]
    have e : acc ++ y :: l = (acc ++ [y]) ++ l := by simp
    rw [e] at h ⊢
    exact uniG_nd h
theorem uniS_nd {l : List Str} (h : l.Nodup) : uniS l = l := by
  have := uniG_nd (l := l) (acc := []) (by simpa using h)
  simpa [uniS] using this
section
variable {P : Program} {w : World} {A : Around} {E : Value → Shared → Prop} {s : Shared}
theorem set_update_strs {I : Addr} {fp wr : List Addr} {G : Array GenState → Array GenState → Prop} {n : Nat} {Pv : Nat → Value → Prop} {St : Nat → Shared → Prop} {R : Result → Shared → Prop}
    (W : WalksS P w A.in1 I fp wr G n Pv St) (S : Addr) (hSf : S ∉ fp) (ns : List Str) (hn : n = ns.length) (hb : ns.length + 1 < scanBound) (hval : ∀ i v, Pv i v → ∃ k t, ns[i]? = some k ∧ v = .str k t) :
    ∀ (k i : Nat) (s : Shared), n - i = k → i ≤ n → St i s → (s.heap.SetOf (strKind P w) S (fun j => decide (j ∈ ns.take i)) (uniS (ns.take i)).length) →
      (∀ s', Moved (S :: wr) G s s' → s'.heap.SetOf (strKind P w) S (fun j => decide (j ∈ ns)) (uniS ns).length → R (.ok (.ret .none)) s') →
      codeAny (model P w) A (.builtin "set.update.loop" ⟨[.ref S, .ref I], []⟩) R s := by
  have hSw : S ∉ wr := fun h => hSf (W.sub _ h)
  have hsub : ∀ b ∈ wr, b ∈ S :: wr := fun b hb => List.mem_cons_of_mem _ hb
  intro k
  induction k with
  | zero =>
    intro i s hk' hi hst hS hR
    have hin : i = n := by omega
    subst hin
    refine codeAny_builtin PyProof.Rows.F.entry_set_update_loop ?_
    rw [Around.under_plainId PyProof.Rows.F.plain_set_update_loop _]
    show wpAny _ A.in1 (pyNext (.ref I) >>= _) _ _ s
    refine wpAny_bind (W.done s _ _ hst fun s' hm => ?_)
    show wpAny _ A.in1 (ret Value.none) _ _ s'
    have e : ns.take i = ns := List.take_of_length_le (by omega)
    rw [e] at hS
    refine wpAny_pure (hR s' (hm.mono hsub) ?_)
    obtain ⟨o, es, ep, tb, ho, rest⟩ := hS
    exact ⟨o, es, ep, tb, hm.heap S _ hSw ho, rest⟩
  | succ k ih =>
    intro i s hk' hi hst hS hR
    have hlt : i < n := by omega
    refine codeAny_builtin PyProof.Rows.F.entry_set_update_loop ?_
    rw [Around.under_plainId PyProof.Rows.F.plain_set_update_loop _]
    show wpAny _ A.in1 (pyNext (.ref I) >>= _) _ _ s
    refine wpAny_bind (W.item i s _ _ hlt hst fun v s' hP hst' hm => ?_)
    obtain ⟨z, t, hz, rfl⟩ := hval i v hP
    have hS' : s'.heap.SetOf (strKind P w) S (fun j => decide (j ∈ ns.take i)) (uniS (ns.take i)).length := by
      obtain ⟨o, es, ep, tb, ho, rest⟩ := hS
      exact ⟨o, es, ep, tb, hm.heap S _ hSw ho, rest⟩
    show wpAny _ A.in1 (holding [Value.str z t] (setAdd S (.str z t)) >>= _) _ _ s'
    refine wpAny_bind (wpAny_holding ?_)
    unfold setAdd
    refine wpAny_holding ?_
    refine wpAny_bind ((strKind P w).pyHash (k := z) (strKind_is _ _ _ _) ?_)
    have hc : (uniS (ns.take i)).length ≤ i := Nat.le_trans uniS_len (by rw [List.length_take]; omega)
    refine wpAny_setAddHashed_of (knd := strKind P w) (s := { s' with toks := s'.toks + 1 }) (strKind_is _ _ _ _) rfl hS' (by omega) fun h' hsb hS2 => ?_
    have hS3 : h'.SetOf (strKind P w) S (fun j => decide (j ∈ ns.take (i + 1))) (uniS (ns.take (i + 1))).length := by
      refine SetOf_congr hS2 (fun j => ?_) ?_
      · rw [List.take_add_one, hz]
        simp [List.mem_append]
      · rw [List.take_add_one, hz]
        show _ = (uniS (ns.take i ++ [z])).length
        rw [uniS_snoc]
        by_cases hm2 : z ∈ ns.take i
        · rw [if_pos (uniS_mem.mpr hm2), if_pos (by simpa using hm2)]
        · rw [if_neg (fun q => hm2 (uniS_mem.mp q)), if_neg (by simpa using hm2)]
          simp
    refine wpAny_pure ⟨plainId_quiet PyProof.Rows.F.plain_set_update_loop _, ih (i + 1) _ (by omega) hlt (W.frame _ s' _ _ hst' (Nat.le_succ _) fun b hb o e => ?_) hS3 fun s'' hm'' hS'' => ?_⟩
    · rw [hsb.2 b (fun h : b = S => hSf (by rw [← h]; exact hb))]; exact e
    · refine hR s'' (Moved.trans W.gtrans ((hm.mono hsub).then_heap (Nat.le_succ _) fun b o hb e => ?_) hm'') hS''
      rw [hsb.2 b (fun h : b = S => hb (by rw [h]; exact List.mem_cons_self))]; exact e
theorem set_init_strs {S l : Addr} {items : Array Value} {ns : List Str} {Q : Value → Shared → Prop} (hh : A.handled = none) (hS : s.heap.get? S = some (set0 w)) (hl : s.heap.IsList l items)
    (hi : StrsAre items.toList ns) (hb : ns.length + 1 < scanBound)
    (h : ∀ (h' : Heap) (tk : Nat), h'.SetOf (strKind P w) S (fun j => decide (j ∈ ns)) (uniS ns).length → (∀ b o, b ≠ S → s.heap.get? b = some o → h'.get? b = some o) → Q .none { s with heap := h', toks := tk }) :
    codeAny (model P w) A (.call (.builtin "set.__init__") ⟨[.ref S, .ref l], []⟩) (wants Q E) s := by
  have T := PySem.F.called_set
  have hT : Shared.TypeIs s (.ref S) "set" := ⟨_, hS, rfl⟩
  have hz : items.size = ns.length := by rw [← StrsAre.len_eq hi, Array.length_toList]
  have hne : l ≠ S := by
    rintro rfl
    obtain ⟨o, ho, hc, _⟩ := hl
    rw [hS] at ho
    cases ho
    have z : Value.type "set" = Value.type "list" := hc
    exact absurd z (by decide)
  refine codeAny_call_builtin (R := wants Q E) T.init.plain PySem.F.entry_set_init (check_set_init_1 hT ?_)
  have hl1 := hl
  obtain ⟨⟨cls, dd, data, sl⟩, ho, hc, nl, hd⟩ := hl
  simp only at hc hd
  subst hc
  subst hd
  have e1 := PySem.F.sub_list_set
  have e2 := PySem.F.sub_list_frozenset
  have e3 : (Value.type "list" == Value.type "dict") = false := by decide
  have hSlt : S < s.heap.objs.size := Heap.lt_size hS
  have hllt : l < s.heap.objs.size := Heap.lt_size ho
  unfold Builtin.«set.__init__» noKeywords Builtin.Frozenset.updateFrom
  generalize hPI : pyIter = PI
  wp_walk
  subst hPI
  refine wpAny_pyIter_list hl1 ?_
  refine wpAny_bind (wpAny_runValue ?_)
  have a2 : A.in1.in1.handled = none := by simp [hh]
  have hlI : l ≠ s.heap.objs.size := Nat.ne_of_lt hllt
  have hSI : S ≠ s.heap.objs.size := Nat.ne_of_lt hSlt
  have hat : ∀ (i : Nat) (v : Value), items[i]? = some v → ∃ k t, ns[i]? = some k ∧ v = .str k t := fun i v hv => by
    have hin : i < ns.length := hz ▸ (Array.getElem?_eq_some_iff.mp hv).1
    obtain ⟨t, e⟩ := SS.strs_at hi i v (by rw [Array.getElem?_toList]; exact hv)
    rw [List.getD_eq_getElem?_getD, List.getElem?_eq_getElem hin] at e
    exact ⟨_, t, List.getElem?_eq_getElem hin, e⟩
  have hw0 : (s.heap.push { cls := .type "list_iterator", data := .fields #[.ref l, .int 0 0] }).get? S = some (set0 w) := Heap.get?_push_of_some _ hS
  refine set_update_strs ((Walks.list a2 _ l hlI items).toS) S (fun m => ?_) ns hz hb hat _ 0 _ rfl (Nat.zero_le _) ⟨⟨_, Heap.get?_push_size _ rfl, rfl, rfl⟩, hl1.push _⟩ ?_ fun s' hm hR => ?_
  · rcases List.mem_cons.mp m with e | e
    · exact hSI e
    · exact hne (List.mem_singleton.mp e).symm
  · exact SetOf_congr ((setObjOf_fresh (knd := strKind P w) _).setOf hw0 (by unfold scanBound; omega)) (fun _ => by simp) (by simp [uniS])
  · obtain ⟨h', g', d', tk', os'⟩ := s'
    have z1 : g' = s.gens := hm.gens
    have z2 : d' = s.drawn := hm.drawn
    have z3 : os' = s.os := hm.os
    subst z1
    subst z2
    subst z3
    refine wpAny_pure (wpAny_pure (h h' tk' hR fun b o hb e => hm.heap b o ?_ (Heap.get?_push_of_some _ e)))
    intro hx
    rcases List.mem_cons.mp hx with z | z
    · exact hb z
    · exact absurd (Heap.lt_size e) (by rw [List.mem_singleton.mp z]; exact Nat.lt_irrefl _)
theorem set_strs {l : Addr} {items : Array Value} {ns : List Str} {Q : Value → Shared → Prop} (hh : A.handled = none) (hl : s.heap.IsList l items) (hi : StrsAre items.toList ns) (hb : ns.length + 1 < scanBound)
    (h : ∀ (h' : Heap) (tk : Nat), h'.SetOf (strKind P w) s.heap.objs.size (fun j => decide (j ∈ ns)) (uniS ns).length → (∀ b o, s.heap.get? b = some o → h'.get? b = some o) → Q (.ref s.heap.objs.size) { s with heap := h', toks := tk }) :
    wpAny (model P w) A (call (.type "set") [.ref l]) Q E s := by
  refine set_by_init hh fun A' ha => set_init_strs (Q := fun r s₂ => r = .none ∧ Q (.ref s.heap.objs.size) s₂) ha (Heap.get?_push_size _ rfl) (hl.push _) hi hb fun h' tk R k => ⟨rfl, h h' tk R fun b o e => ?_⟩
  exact k b o (Nat.ne_of_lt (Heap.lt_size e)) (Heap.get?_push_of_some _ e)
end
section
variable {X : Cx} {pin : List (Option V)} {K : PySem.W.Frag} {S S' H : Hp} {e a b c : Expr} {t ta tb tc tj : TE} {f fj : Fe} {oa ob : Fo} {pos p p2 q apos : Pos} {L T F : List It} {ρ ρ2 : Rho} {σ : L2.St}
def rLenSetS (K : PySem.W.Frag) : V → Hp → VK → Prop := fun x H Q => ∃ (l : Addr) (ns : List Str), x = .ref l ∧ SqL K H l (ns.map V.str) ∧ ns.length ≤ 1000 ∧ Q (.int ((uniS ns).length : Nat)) H
theorem pe_lenSetS (hc : X.calm = true) (hm : X.mg "len" = none) (hm2 : X.mg "set" = none) (ha : PE X a ta) (hg : Gl X "len" := by rfl) (hg2 : Gl X "set" := by rfl)
    (na : starEach [a] X.env = (false, eval a X.env) :: starEach [] X.env := by rfl) : PE X (.Call (.Name "len" p) [.Call (.Name "set" p2) [a] [] q] [] pos) (tUn (rLenSetS X.K) ta) := by
  refine ⟨fun pins s σ H Q I h => ?_⟩
  refine Call_ (ld_blt I hg hm boot_len ?_)
  refine PyProof.Rows.callWith_builtin1 (PyProof.Rows.args_cons ?_ rfl) rfl rfl
  refine Call_ (ld_blt I hg2 hm2 boot_set ?_)
  refine PyProof.Rows.callWith_type1 (PyProof.Rows.args_cons (thn (ha.run pins s σ H _ I h) fun v s1 ⟨x, H1, I1, r1, q1⟩ => PyProof.Rows.args_nil ?_) na) na rfl
  obtain ⟨l, xs, rfl, hq, h1, q1⟩ := q1
  cases r1
  obtain ⟨its, r, pl, hz⟩ := I1.list hq
  refine set_strs (I1.ok.hd hc) pl.isList (by simpa using strsAre_of r) (by unfold scanBound; omega) fun h' tk hS hk => ?_
  refine PyProof.Rows.args_nil ?_
  obtain ⟨o, es, ep, t, ho, hex, hd, _, _, hsb, hf, hn⟩ := hS
  have I2 : Inv X pins σ H1 { s1 with heap := h', toks := tk } := I1.kept fun b o e => hk b o e
  have hu : (uniS xs).length ≤ 1000 := Nat.le_trans uniS_len h1
  exact call_len_set ho hex hd hf (by rw [hn]; omega) ⟨.int ((uniS xs).length : Nat), H1, I2.tok _, ⟨_, by rw [hn]⟩, q1⟩
def gLenSetS : OD → Option OD := fun a => match a.rd with
  | some (.lst ds) => (match strsOf ds with
    | some ns => if ns.length ≤ 1000 then some (.st (.int ((uniS ns).length : Nat))) else none
    | none => none)
  | _ => none
theorem rg_lenSetS : RG1 K (rLenSetS K) gLenSetS := by
  intro S H L x ox oz Q w e k
  unfold gLenSetS at e
  split at e
  · rename_i ds hx
    split at e
    · rename_i ns hns
      split at e
      · rename_i hl
        cases e
        obtain ⟨a, vs, rfl, ha, hlen, hr⟩ := w.at0.lst w.le hx
        rw [strsOf_eq hns] at hlen hr
        have := rp_strs (by simpa using hlen) hr
        subst this
        exact ⟨a, ns, rfl, SqL.of ha, hl, k _ S H (ex_refl S) (w.push (.int .nil))⟩
      · cases e
    · cases e
  · cases e
theorem se_lenSetS (hc : X.calm = true) (hm : X.mg "len" = none) (hm2 : X.mg "set" = none) (ha : SO X pin a ta oa) (hg : Gl X "len" := by rfl) (hg2 : Gl X "set" := by rfl)
    (na : starEach [a] X.env = (false, eval a X.env) :: starEach [] X.env := by rfl) : SE X pin (.Call (.Name "len" p) [.Call (.Name "set" p2) [a] [] q] [] pos) (tUn (rLenSetS X.K) ta) (fUn gLenSetS oa) :=
  ⟨pe_lenSetS hc hm hm2 ha.pe hg hg2 na, re_un ha.rd rg_lenSetS⟩
end
end Qy
set_option Elab.async false
set_option linter.all false
set_option maxRecDepth 100000
set_option maxHeartbeats 400000
/-! Dicts that are locked when they are given away: they may be walked. -/
namespace Qy
open PySem PySem.Spec PyProof.Rows L2 ClX
section
variable {X : Cx} {pin : List (Option V)} {K : PySem.W.Frag} {S S' H : Hp} {e a b c : Expr} {t ta tb tc tj : TE} {f fj : Fe} {oa ob : Fo} {pos p p2 q apos : Pos} {L T F : List It} {ρ ρ2 : Rho} {σ : L2.St} {v : V}
/-- an owned dict, locked -/
theorem Own.lock {x : V} {kvs : List (Key × OD)} (h : Own K S H [] ((x, .oK kvs) :: L)) : ∃ p ks, x = .ref p ∧ H p = some (.dK ks) ∧ ∀ od, ∃ S', Ex S S' ∧ Own K S' (upd H p (.frz od (.dK ks))) [] ((.ref p, .st (.dF (valK kvs))) :: L) := by
  obtain ⟨le, fp, w, nd, sn, _⟩ := h
  cases w with
  | @oK pp ks _ _ f1 f2 a l c tl =>
    have nd' := List.nodup_cons.mp nd
    have nd2 := List.nodup_append.mp nd'.2
    refine ⟨pp, ks, rfl, a, fun od => ?_⟩
    have w1 : Own K S H [pp] ((ks.map (·.2)).zip (kvs.map (·.2)) ++ L) := ⟨le, f1 ++ f2, c.append tl, nd'.2, fun x hx => sn x (List.mem_cons_of_mem _ hx), fun q hq => by
      rw [List.mem_singleton.mp hq]
      exact ⟨nd'.1, sn _ List.mem_cons_self⟩⟩
    obtain ⟨S1, e1, r1, le1, fp2, w2, nd3, sn2, ex2⟩ := w1.freeze
    obtain ⟨n1, n2⟩ := ex2 pp (List.mem_singleton.mpr rfl)
    have sx : Ex S1 (upd S1 pp (.frz od (.dK ks))) := ex_upd (ex_refl S1) n2
    refine ⟨upd S1 pp (.frz od (.dK ks)), ex_trans e1 sx, ex_both le1, fp2, .st ?_ (w2.mono sx fun x hx => upd_ne fun (z : x = pp) => n1 (z ▸ hx)), nd3, fun x hx => ?_, fun _ z => nomatch z⟩
    · refine .dF (od := od) (ks := ks) upd_same ?_ ?_ .nil
      · rw [valK_map, l]
        simp
      · have r2 := r1.mono sx
        rw [vals_zip] at r2
        rw [valK_map]
        rw [List.map_map] at r2 ⊢
        exact r2
    · have hne : x ≠ pp := fun z => n1 (z ▸ hx)
      rw [upd_ne hne]
      exact sn2 x hx
def tLk (t : TE) : TE := fun σ H Q => t σ H fun v H1 => ∃ p ks, v = .ref p ∧ H1 p = some (.dK ks) ∧ ∀ od, Q v (upd H1 p (.frz od (.dK ks)))
theorem pe_lk (h : PE X e t) : PE X e (tLk t) := by
  refine ⟨fun pins s σ H Q I q => thn (h.run pins s σ H _ I q) fun v s1 ⟨x, H1, I1, r1, p, ks, ex, hp, k⟩ => ?_⟩
  obtain ⟨od, I2⟩ := I1.lock hp trivial
  exact ⟨x, _, I2, r1, k od⟩
/-- a dict is locked and frozen -/
def fLz (a : Fo) : Fe := fun ρ => match a.1 ρ with
  | some (.oK kvs, ρ1) => some (.st (.dF (valK kvs)), a.2 (.st (.dF (valK kvs))) ρ1)
  | _ => none
theorem RO.lz {a : Fo} (h : RO K pin t a) : RE K pin (tLk t) (fLz a) := by
  intro S H T ρ σ F Q od ρ' w e k
  unfold fLz at e
  split at e
  · rename_i kvs ρ1 q
    cases e
    refine h S H T ρ σ F _ _ ρ1 w q fun v S1 H1 x w1 rs => ?_
    obtain ⟨p, ks, rfl, hp, g⟩ := Own.lock w1.own
    refine ⟨p, ks, rfl, hp, fun od => ?_⟩
    obtain ⟨S2, e2, o2⟩ := g od
    have w2 : Sat K pin S2 (upd H1 p (.frz od (.dK ks))) ((.ref p, .st (.dF (valK kvs))) :: T) ρ1 σ F := w1.with o2
    exact k _ S2 _ (ex_trans x e2) (rs S2 _ _ ρ1 _ (w2.push w2.known))
  · cases e
theorem SO.lz {a : Fo} (h : SO X pin e t a) : SE X pin e (tLk t) (fLz a) := ⟨pe_lk h.pe, h.rd.lz⟩
/-! ### what may be done with a locked dict -/
theorem At.dFr {x : V} {o : OD} {ds : List (Key × D)} (h : At K S H x o) (e : Ex S H) (r : o.rd = some (.dF ds)) : ∃ a od ks, x = .ref a ∧ H a = some (.frz od (.dK ks)) ∧ RpK K S ks ds := by
  obtain ⟨a, od, ks, h1, h2, h3, h4⟩ := h.dF e r
  exact ⟨a, od, ks, h1, h2, rpk_iff.mpr ⟨h3, h4⟩⟩
def gFGet : OD → OD → Option OD := fun x y => match x.rd, y with
  | some (.dF ds), .st d => (match keyD d with
    | some k => (valA ds k).map .st
    | none => none)
  | _, _ => none
theorem re_fget {oa ob : Fo} (ha : RO K pin ta oa) (hb : RO K pin tb ob) : RE K pin (tDGet ta tb) (fBin gFGet oa ob) := by
  have hr : RG2 K (fun x y H Q => ∃ a v, x = .ref a ∧ DGet H a y (some v) ∧ Q v H) gFGet := by
    intro S H L x y ox oy oz Q w q k
    unfold gFGet at q
    split at q
    · rename_i ds d hx
      split at q
      · rename_i kk hk
        obtain ⟨d', hd, rfl⟩ := Option.map_eq_some_iff.mp q
        obtain ⟨ad, od, ks, rfl, hA, r⟩ := w.at1.dFr w.le hx
        have hy := keyD_rp w.at0.st hk
        subst hy
        rcases r.val kk with ⟨_, z⟩ | ⟨v, d2, h1, h2, h3⟩
        · rw [z] at hd; cases hd
        · rw [hd] at h2; cases h2
          exact ⟨ad, v, rfl, h1 ▸ .inl ⟨ks, kk, .inr ⟨od, hA⟩, rfl, rfl⟩, k v S H (ex_refl S) (w.push h3)⟩
      · cases q
    · cases q
  exact re_bin (r := fun x y H Q => ∃ a v, x = .ref a ∧ DGet H a y (some v) ∧ Q v H) ha hb hr
theorem se_fget (hu : X.A.units + 1 < cLine) (ha : SO X pin a ta oa) (hb : SO X pin b tb ob) (hs : PlainIx b := by exact fun _ _ => rfl) : SE X pin (.Subscript a b pos) (tDGet ta tb) (fBin gFGet oa ob) := ⟨pe_dget hu ha.pe hb.pe hs, re_fget ha.rd hb.rd⟩
def gFIn (neg : Bool) : OD → OD → Option OD := fun y x => match x.rd, y with
  | some (.dF ds), .st d => (match keyD d with
    | some k => some (.st (.bl (xor neg (valA ds k).isSome)))
    | none => none)
  | _, _ => none
theorem rg_fin {neg : Bool} : RG2 K (rDIn neg) (gFIn neg) := by
  intro S H L x y ox oy oz Q w q k
  unfold gFIn at q
  split at q
  · rename_i ds d hx
    split at q
    · rename_i kk hk
      cases q
      obtain ⟨ad, od, ks, rfl, hA, r⟩ := w.at0.dFr w.le hx
      have hy := keyD_rp w.at1.st hk
      subst hy
      have hs : (valV ks kk).isSome = (valA ds kk).isSome := by
        rcases r.val kk with ⟨z1, z2⟩ | ⟨v, d2, h1, h2, _⟩
        · rw [z1, z2]; rfl
        · rw [h1, h2]; rfl
      exact ⟨ad, _, rfl, .inl ⟨ks, kk, .inr ⟨od, hA⟩, rfl, rfl⟩, by rw [hs]; exact k _ S H (ex_refl S) (w.push (.bl .nil))⟩
    · cases q
  · cases q
/-- len of a dict, locked or not -/
def rLenD : List V → Hp → VK → Prop := fun xs H Q => ∃ a kvs, xs = [V.ref a] ∧ Rd H a (.dK kvs) ∧ Q (.int (kvs.length : Nat)) H
theorem call_lenDR : CallR X (.builtin "len") rLenD := by
  intro pins s σ H xs us Q I r h
  obtain ⟨a, kvs, rfl, ha, q⟩ := h
  obtain ⟨u, rfl, ru⟩ := vals1 r
  cases ru
  exact d_len I ha fun t s' I' => ⟨.int kvs.length, H, I', ⟨t, rfl⟩, q⟩
def gLenD : OD → Option OD := fun a => match a.rd with
  | some (.dK ds) => some (.st (.int (ds.length : Nat)))
  | some (.dF ds) => some (.st (.int (ds.length : Nat)))
  | _ => none
theorem rg_lenD : RG1 K (fun x H Q => rLenD [x] H Q) gLenD := by
  intro S H L x ox oz Q w e k
  unfold gLenD at e
  split at e
  · rename_i ds hx
    cases e
    obtain ⟨a, ks, rfl, ha, r⟩ := w.at0.dKr w.le hx
    exact ⟨a, ks, rfl, .inl ha, by rw [r.len]; exact k _ S H (ex_refl S) (w.push (.int .nil))⟩
  · rename_i ds hx
    cases e
    obtain ⟨a, od, ks, rfl, ha, r⟩ := w.at0.dFr w.le hx
    exact ⟨a, ks, rfl, .inr ⟨od, ha⟩, by rw [r.len]; exact k _ S H (ex_refl S) (w.push (.int .nil))⟩
  · cases e
/-! ### walking its keys, its values -/
def kD : Key → D
  | .inl i => .int i
  | .inr x => .str x
theorem rpk_get : ∀ {ks : List (Key × V)} {ds : List (Key × D)}, RpK K S ks ds → ∀ {i : Nat} {k : Key} {v : V}, ks[i]? = some (k, v) → ∃ d, ds[i]? = some (k, d) ∧ Rp K S v d
  | [], _, _, i, k, v, h => by simp at h
  | p :: ks, q :: ds, ⟨h1, h2, h3⟩, 0, k, v, h => by
    simp only [List.getElem?_cons_zero, Option.some.injEq] at h
    subst h
    exact ⟨q.2, by rw [List.getElem?_cons_zero]; exact congrArg some (Prod.ext h1.symm rfl), h2⟩
  | p :: ks, q :: ds, ⟨h1, h2, h3⟩, i + 1, k, v, h => by
    rw [List.getElem?_cons_succ] at h ⊢
    exact rpk_get h3 h
theorem kV_rp (k : Key) : Rp K S (kV k) (kD k) := by
  cases k with
  | inl i => exact .int .nil
  | inr x => exact .str .nil
def fItK (f : Fe) : Fi := fun ρ => match f ρ with
  | some (.st (.dF ds), ρ') => some (ds.map fun p => kD p.1, ρ')
  | _ => none
theorem ri_keys {t : TE} {f : Fe} (h : RE K pin t f) : RI K pin (iKeys t) (fItK f) := by
  intro S H T ρ σ F R ds ρ' w e k
  unfold fItK at e
  split at e
  · rename_i ds' ρ1 q
    cases e
    refine h S H T ρ σ F _ _ _ w q fun v S' H' x w' => ?_
    obtain ⟨a, od, ks, rfl, hA, r⟩ := At.dFr w'.own.at0 w'.le rfl
    have hS : S' a = some (.frz od (.dK ks)) := by
      have z := w'.known
      cases z with
      | dF g _ _ _ =>
        have := w'.le _ _ g
        rw [hA] at this
        cases this
        exact g
    refine ⟨a, od, rfl, .inl ⟨ks, hA, ?_⟩⟩
    refine k _ _ _ S' H' x w'.tl (by rw [List.length_map, ← r.len]; exact walk_keys) (fun H2 e2 => e2 _ _ hS) fun i d H2 y H3 S2 L hd e2 o2 hy => ?_
    obtain ⟨rfl, kk, vv, hk, rfl⟩ := hy
    obtain ⟨d2, hd2, _⟩ := rpk_get r hk
    rw [List.getElem?_map, hd2] at hd
    cases hd
    exact ⟨S2, ex_refl S2, o2.push (kV_rp kk)⟩
  · cases e
theorem si_keys {tg : Expr} {t : TE} {f : Fe} (h : SE X pin e t f) : SI X pin tg e (iKeys t) (fItK f) := ⟨pi_keys h.pe, ri_keys h.rd⟩
def fItVs (f : Fe) : Fi := fun ρ => match f ρ with
  | some (.st (.dF ds), ρ') => some (ds.map fun p => p.2, ρ')
  | _ => none
theorem ri_vals {t : TE} {f : Fe} (h : RE K pin t f) : RI K pin (iVals t) (fItVs f) := by
  intro S H T ρ σ F R ds ρ' w e k
  unfold fItVs at e
  split at e
  · rename_i ds' ρ1 q
    cases e
    refine h S H T ρ σ F _ _ _ w q fun v S' H' x w' => ?_
    obtain ⟨a, od, ks, rfl, hA, r⟩ := At.dFr w'.own.at0 w'.le rfl
    have hS : S' a = some (.frz od (.dK ks)) := by
      have z := w'.known
      cases z with
      | dF g _ _ _ =>
        have := w'.le _ _ g
        rw [hA] at this
        cases this
        exact g
    refine ⟨a, od, ks, rfl, hA, ?_⟩
    refine k _ _ _ S' H' x w'.tl (by rw [List.length_map, ← r.len]; exact walk_values) (fun H2 e2 => e2 _ _ hS) fun i d H2 y H3 S2 L hd e2 o2 hy => ?_
    obtain ⟨rfl, kk, hk⟩ := hy
    obtain ⟨d2, hd2, hr2⟩ := rpk_get r hk
    rw [List.getElem?_map, hd2] at hd
    cases hd
    exact ⟨S2, ex_refl S2, o2.push (hr2.mono e2)⟩
  · cases e
theorem si_vals {tg : Expr} {t : TE} {f : Fe} (h : SE X pin e t f) (hbase : attributeBase e "values" X.env (eval e X.env) = eval e X.env := by rfl) (hline : (apos.endLine == pos.line) = true := by rfl) : SI X pin tg (.Call (.Attribute e "values" apos) [] [] pos) (iVals t) (fItVs f) := ⟨pi_values h.pe hbase hline, ri_vals h.rd⟩
end
end Qy
set_option Elab.async false
set_option linter.all false
set_option maxRecDepth 100000
set_option maxHeartbeats 400000
/-! x[j].clear(); isinstance(x[j], list); sorted(set(..)) of many numbers, few unlike ones. -/
namespace Qy
open PySem PySem.Spec PyProof.Rows L2 ClX
section
variable {X : Cx} {pin : List (Option V)} {K : PySem.W.Frag} {S S' H : Hp} {e a b c : Expr} {t ta tb tc tj : TE} {f fj : Fe} {oa ob : Fo} {pos p p2 q apos : Pos} {L T F : List It} {ρ ρ2 : Rho} {σ : L2.St}
/-! ### x[j].clear() -/
def fClrAt (i : Nat) (fj : Fe) : Fe := fun ρ => match ρ[i]? with
  | some (some (.ol os)) => (match fj (ρ.set i none) with
    | some (.st (.int k), ρ1) => (match ixN os.length k with
      | some j => (match os[j]? with
        | some (.ol _) => some (.st .non, ρ1.set i (some (.ol (os.set j (.ol [])))))
        | _ => none)
      | none => none)
    | _ => none)
  | _ => none
theorem re_clrAt {i : Nat} (hj : RE K pin tj fj) : RE K pin (tBM0 K "list" rClear (tOp (rIx K) (tVar i) tj)) (fClrAt i fj) := by
  intro S H T ρ σ F Q od ρ' w e k
  unfold fClrAt at e
  split at e
  · rename_i os h0
    split at e
    · rename_i kk ρ1 q1
      split at e
      · rename_i j hix
        split at e
        · rename_i us hoj
          cases e
          obtain ⟨q, vs, v, hv, hq, hl, hvj, w1⟩ := sat_open w h0 hoj
          refine ⟨.ref q, hv, hj S H _ _ σ F _ _ ρ1 w1 q1 fun y S1 H1 e1 w2 => ?_⟩
          cases w2.known
          have w3 : Sat K pin S1 H1 ((v, .ol us) :: (.ref q, .cell q (.lst vs)) :: (zRest vs os j ++ T)) ρ1 σ F := w2.tl
          have hq1 : H1 q = some (.lst vs) := (Own.at_ (x := .ref q) (o := .cell q (.lst vs)) w3.own (by simp)).cell.2
          refine .inl ⟨q, vs, kk, v, rfl, rfl, SqL.of hq1, ixN_at (by rw [hl]; exact hix) hvj, ?_⟩
          obtain ⟨fp, z⟩ := (Own.at0 w3.own : At K S1 H1 v (.ol us))
          have hvr : ∃ b ws, v = .ref b ∧ H1 b = some (.lst ws) := by
            cases z with
            | ol a _ _ _ => exact ⟨_, _, rfl, a⟩
          obtain ⟨b, ws, rfl, hb1⟩ := hvr
          refine ⟨.inl ⟨rfl, ws, SqL.of hb1⟩, b, ws, rfl, rfl, hb1, ?_⟩
          have o1 : Own K S1 H1 [] ((.ref b, .ol us) :: ((.ref q, .cell q (.lst vs)) :: (zRest vs os j ++ T ++ (its ρ1 σ ++ F)))) := w3.own
          obtain ⟨vs2, g1, g2, g3, g4⟩ := o1.open_
          have o4 : Own K S1 H1 [b] ((.ref q, .cell q (.lst vs)) :: (zRest vs os j ++ T ++ (its ρ1 σ ++ F))) := Own.drop (r := vs2.zip us) g4
          have o2 := Own.close (os := []) (us := []) (l := ((.ref q, .cell q (.lst vs)) :: (zRest vs os j ++ T ++ (its ρ1 σ ++ F)))) o4 rfl (by simp)
          have w6 : Sat K pin S1 (upd H1 b (.lst [])) ((.ref b, .ol []) :: (.ref q, .cell q (.lst vs)) :: (zRest vs os j ++ T)) ρ1 σ F := w3.with o2
          exact k _ S1 _ e1 ((sat_shut hv hl hvj w6).push (.non .nil))
        · cases e
      · cases e
    · cases e
  · cases e
theorem se_clrAt {i : Nat} {x : Str} {j : Expr} {p2 ip : Pos} (hj : SE X pin j tj fj) (hsl : PlainIx j := by exact fun _ _ => rfl) (hN : X.N[i]? = some x := by rfl) (hv : Vis X.env.scope x := by first | exact Or.inl rfl | exact Or.inr (Or.inl rfl) | exact Or.inr (Or.inr rfl)) (hd : (x == ("__debug__" : Str)) = false := by decide) (hcd : (x == ("__classdict__" : Str)) = false := by decide)
    (hbase : attributeBase (.Subscript (.Name x p2) j ip) "clear" X.env (eval (.Subscript (.Name x p2) j ip) X.env) = eval (.Subscript (.Name x p2) j ip) X.env := by rfl) (hline : (apos.endLine == pos.line) = true := by rfl) :
    SE X pin (.Call (.Attribute (.Subscript (.Name x p2) j ip) "clear" apos) [] [] pos) (tBM0 X.K "list" rClear (tOp (rIx X.K) (tVar i) tj)) (fClrAt i fj) :=
  ⟨pe_bm0 PySem.F.plainAttrs_list PySem.F.slot_list_clear PySem.F.type_list_clear mt_clear (pe_ix ix_seq (pe_var hN hv hd hcd) hj.pe hsl) hbase hline, re_clrAt hj.rd⟩
/-! ### isinstance(x[j], list) -/
def fIsiAt (i : Nat) (n : String) (fj : Fe) : Fe := fun ρ => match ρ[i]? with
  | some (some (.ol os)) => (match fj (ρ.set i none) with
    | some (.st (.int k), ρ1) => (match ixN os.length k with
      | some j => (match os[j]? with
        | some (.ol _) => (kitB "list" n).map fun r => (.st (.bl r), ρ1.set i (some (.ol os)))
        | _ => none)
      | none => none)
    | _ => none)
  | _ => none
theorem re_isiAt {i : Nat} {n : String} (hj : RE K pin tj fj) : RE K pin (tCB (rIsi K) (tCons (tOp (rIx K) (tVar i) tj) (tCons (tC (.ty n)) tNil))) (fIsiAt i n fj) := by
  intro S H T ρ σ F Q od ρ' w e k
  unfold fIsiAt at e
  split at e
  · rename_i os h0
    split at e
    · rename_i kk ρ1 q1
      split at e
      · rename_i j hix
        split at e
        · rename_i us hoj
          obtain ⟨r, hr, e⟩ := Option.map_eq_some_iff.mp e
          cases e
          obtain ⟨q, vs, v, hv, hq, hl, hvj, w1⟩ := sat_open w h0 hoj
          refine ⟨.ref q, hv, hj S H _ _ σ F _ _ ρ1 w1 q1 fun y S1 H1 e1 w2 => ?_⟩
          cases w2.known
          have w3 : Sat K pin S1 H1 ((v, .ol us) :: (.ref q, .cell q (.lst vs)) :: (zRest vs os j ++ T)) ρ1 σ F := w2.tl
          have hq1 : H1 q = some (.lst vs) := (Own.at_ (x := .ref q) (o := .cell q (.lst vs)) w3.own (by simp)).cell.2
          refine .inl ⟨q, vs, kk, v, rfl, rfl, SqL.of hq1, ixN_at (by rw [hl]; exact hix) hvj, ?_⟩
          obtain ⟨fp, z⟩ := (Own.at0 w3.own : At K S1 H1 v (.ol us))
          have hvr : ∃ b ws, v = .ref b ∧ H1 b = some (.lst ws) := by
            cases z with
            | ol a _ _ _ => exact ⟨_, _, rfl, a⟩
          obtain ⟨b, ws, rfl, hb1⟩ := hvr
          have hs : os.set j (.ol us) = os := by
            obtain ⟨h1, h2⟩ := List.getElem?_eq_some_iff.mp hoj
            rw [← h2, List.set_getElem_self]
          have w4 := sat_shut hv hl hvj w3
          rw [hs] at w4
          exact ⟨.ref b, .ty n, .type "list", .type n, r, rfl, .ty n, .base (.lst hb1), kit_ty hr, k _ S1 H1 e1 (w4.push (.bl .nil))⟩
        · cases e
      · cases e
    · cases e
  · cases e
theorem se_isiAt {i : Nat} {x n : Str} {T : String} {j : Expr} {p2 p3 p4 ip : Pos} (hm : X.mg "isinstance" = none) (hm2 : X.mg n = none) (hv2 : bootBuiltins n = some (.type T)) (hj : SE X pin j tj fj) (hsl : PlainIx j := by exact fun _ _ => rfl) (hg : Gl X "isinstance" := by rfl) (hg2 : Gl X n := by rfl) (hn2 : n ≠ "__name__" := by decide) (hd2 : (n == ("__debug__" : Str)) = false := by decide)
    (hN : X.N[i]? = some x := by rfl) (hv : Vis X.env.scope x := by first | exact Or.inl rfl | exact Or.inr (Or.inl rfl) | exact Or.inr (Or.inr rfl)) (hd : (x == ("__debug__" : Str)) = false := by decide) (hcd : (x == ("__classdict__" : Str)) = false := by decide)
    (hs : starEach [.Subscript (.Name x p2) j ip, .Name n p3] X.env = (false, eval (.Subscript (.Name x p2) j ip) X.env) :: starEach [.Name n p3] X.env := by rfl) (hs2 : starEach [.Name n p3] X.env = (false, eval (.Name n p3) X.env) :: starEach [] X.env := by rfl) (hpl : (backTo pos (starEach [.Name n p3] X.env)).any (·.1) = false := by rfl) :
    SE X pin (.Call (.Name "isinstance" p4) [.Subscript (.Name x p2) j ip, .Name n p3] [] pos) (tCB (rIsi X.K) (tCons (tOp (rIx X.K) (tVar i) tj) (tCons (tC (.ty T)) tNil))) (fIsiAt i T fj) :=
  ⟨pe_callB call_isi hg hm (by decide +kernel) (pa_cons (pe_ix ix_seq (pe_var hN hv hd hcd) hj.pe hsl) (pa_cons (se_ty (pin := pin) hm2 hv2 hg2 hn2 hd2).pe pa_nil hs2) hs) (by decide) (by decide) hs hpl, re_isiAt hj.rd⟩
/-! ### sorted(set(x)) of many -/
theorem setR_card {w : World} {h : Heap} {a : Addr} {ns : List Int} {n : Nat} (R : SetR w h a (fun j => decide (j ∈ ns)) n) : n = (uniI ns).length := by
  obtain ⟨o, es, ep, t, _, _, _, _, nd, mem, _, _, hn, _, _⟩ := R
  have p : (es.toList.map keyOf).Perm (uniI ns) := by
    have nd2 : (uniI ns).Nodup := (uniI_lt ns).imp fun h => by omega
    refine List.perm_iff_count.mpr fun x => ?_
    rw [nd.count, nd2.count]
    have : x ∈ es.toList.map keyOf ↔ x ∈ uniI ns := by
      rw [← mem x, decide_eq_true_eq, uniI_mem]
    simp only [this]
  have q := p.length_eq
  rw [List.length_map, Array.length_toList, hn] at q
  exact q
def rSetL2 (w : World) (K : PySem.W.Frag) : List V → Hp → VK → Prop := fun vs H Q => ∃ (a : Addr) (ns : List Int), vs = [.ref a] ∧ SqL K H a (ns.map V.int) ∧ ns.length ≤ 1000 ∧
  ∀ (p : Addr), H p = none → Q (.ref p) (upd H p (SetO w p (fun j => decide (j ∈ ns)) (uniI ns).length))
theorem cr_setL2 (hc : X.calm = true) : CallR X (.type "set") (rSetL2 X.w X.K) := by
  intro pins s σ H vs us Q I r h
  obtain ⟨a, ns, rfl, hs, hl, q⟩ := h
  obtain ⟨its, rv, hL, _⟩ := I.list hs
  rw [Vals.ref1 r]
  refine set_list (I.ok.hd hc) hL.isList (by simpa using ints_of_vals rv) (by unfold scanBound; omega) fun h' tk c R hcn k => ?_
  have hcc := setR_card R
  subst hcc
  exact ⟨.ref _, upd H s.heap.objs.size (SetO X.w s.heap.objs.size (fun j => decide (j ∈ ns)) (uniI ns).length), I.laid (t' := tk) k (Nat.le_refl _) (setO_new R), rfl, q _ (I.hok.fresh (Nat.le_refl _))⟩
def rSortSet2 (w : World) (K : PySem.W.Frag) : V → Hp → VK → Prop := fun x H Q => rSetL2 w K [x] H fun y H2 => rSortedSet w [y] H2 Q
def gSortSet2 : OD → Option OD := fun a => match a.rd with
  | some (.lst ds) => (match intsOf ds with
    | some ns => if ns.length ≤ 1000 ∧ (uniI ns).length < 64 then some (.ol ((uniI ns).map fun i => .st (.int i))) else none
    | none => none)
  | _ => none
theorem rg_sortSet2 {w : World} : RG1 K (rSortSet2 w K) gSortSet2 := by
  intro S H L x ox oz Q o e k
  unfold gSortSet2 at e
  split at e
  · rename_i ds hd
    split at e
    · rename_i ns hns
      split at e
      · rename_i hl
        cases e
        obtain ⟨a, vs, rfl, ha, hlen, hr⟩ := o.at0.lst o.le hd
        rw [ints_eq hns] at hlen hr
        have hv := rp_ints (by simpa using hlen) hr
        subst hv
        refine ⟨a, ns, rfl, SqL.of ha, hl.1, fun p hp => ⟨p, _, _, rfl, if_pos rfl, hl.2, fun ys p2 h1 h2 _ hp2 => ?_⟩⟩
        have ey : ys = uniI ns := lt_same h1 (uniI_lt ns) fun j => (h2 j).trans (by rw [decide_eq_true_eq, uniI_mem])
        subst ey
        refine k _ S _ (ex_refl S) ?_
        have := Own.newS (ds := (uniI ns).map D.int) (o.alloc hp) (rpi_ints (uniI ns)) (by simp) hp2
        rw [List.map_map] at this
        exact this
      · cases e
    · cases e
  · cases e
theorem se_sortSet2 (hc : X.calm = true) (hm : X.mg "sorted" = none) (hm2 : X.mg "set" = none) (ha : SO X pin a ta oa) (hg : Gl X "sorted" := by rfl) (hg2 : Gl X "set" := by rfl)
    (hs : starEach [a] X.env = (false, eval a X.env) :: starEach [] X.env := by rfl)
    (hs2 : starEach [.Call (.Name "set" p2) [a] [] q] X.env = (false, eval (.Call (.Name "set" p2) [a] [] q) X.env) :: starEach [] X.env := by rfl) :
    SE X pin (.Call (.Name "sorted" p) [.Call (.Name "set" p2) [a] [] q] [] pos) (tCB (rSortedSet X.w) (tCons (tCB (rSetL2 X.w X.K) (tCons ta tNil)) tNil)) (fUn gSortSet2 oa) :=
  ⟨pe_callB (cr_sortedSet hc) hg hm PyProof.Rows.boot_sorted (pa_cons (pe_callTy (cr_setL2 hc) hg2 hm2 PyProof.Rows.boot_set (pa_cons ha.pe pa_nil hs) (by decide) (by decide) hs rfl) pa_nil hs2) (by decide) (by decide) hs2 rfl, re_un (r := rSortSet2 X.w X.K) ha.rd rg_sortSet2⟩
end
end Qy
set_option Elab.async false
set_option linter.all false
set_option maxRecDepth 100000
set_option maxHeartbeats 400000
/-! Running the mirrors by simp. -/
namespace Qy
open PySem L2
theorem ixN0 (n : Nat) : ixN (n + 1) 0 = some 0 := by simp [ixN]
theorem ixN_nat {n i : Nat} (h : i < n) : ixN n (i : Int) = some i := by
  unfold ixN
  rw [if_pos (by omega), if_pos (by omega)]
  simp
theorem gAdd_i (i j : Int) : gAdd (.st (.int i)) (.st (.int j)) = some (.st (.int (i + j))) := rfl
theorem gLt_i (i j : Int) : gLt (.st (.int i)) (.st (.int j)) = some (.st (.bl (decide (i < j)))) := rfl
theorem gSub_i (i j : Int) : gSubI (.st (.int i)) (.st (.int j)) = some (.st (.int (i - j))) := rfl
theorem gMul_i (i j : Int) : gMul (.st (.int i)) (.st (.int j)) = if ((-18446744073709551616 < i ∧ i < 18446744073709551616) ∨ (-18446744073709551616 < j ∧ j < 18446744073709551616)) then some (.st (.int (i * j))) else none := by
  show Option.map OD.st (if ((-(2 ^ 64) < i ∧ i < 2 ^ 64) ∨ (-(2 ^ 64) < j ∧ j < 2 ^ 64)) then some (D.int (i * j)) else none) = _
  have e : (-(2 ^ 64) : Int) = -18446744073709551616 := by decide
  have e' : (2 ^ 64 : Int) = 18446744073709551616 := by decide
  rw [e, e']
  split <;> rfl
theorem gDiv_i (i j : Int) : gDiv (.st (.int i)) (.st (.int j)) = if 0 < j ∧ j < 1073741824 then some (.st (.int (i / j))) else none := by
  show Option.map OD.st (if _ then _ else _) = _
  split <;> rfl
theorem gMod_i (i j : Int) : gMod (.st (.int i)) (.st (.int j)) = if 0 < j then some (.st (.int (i % j))) else none := by
  show Option.map OD.st (if _ then _ else _) = _
  split <;> rfl
theorem gGt_i (i j : Int) : gGt (.st (.int i)) (.st (.int j)) = some (.st (.bl (decide (j < i)))) := rfl
theorem gLe_i (i j : Int) : gLe (.st (.int i)) (.st (.int j)) = some (.st (.bl (decide (i ≤ j)))) := rfl
theorem gGe_i (i j : Int) : gGe (.st (.int i)) (.st (.int j)) = some (.st (.bl (decide (j ≤ i)))) := rfl
theorem gInt_i (i : Int) : gInt (.st (.int i)) = some (.st (.int i)) := rfl
theorem gNeg_i (i : Int) : gNeg (.st (.int i)) = some (.st (.int (-i))) := rfl
theorem gAbs_i (i : Int) : gAbs (.st (.int i)) = some (.st (.int (if i < 0 then -i else i))) := rfl
theorem gMax_i (i j : Int) : gMax2 (.st (.int i)) (.st (.int j)) = some (.st (.int (if j > i then j else i))) := rfl
theorem gMin_i (i j : Int) : gMin2 (.st (.int i)) (.st (.int j)) = some (.st (.int (if j < i then j else i))) := rfl
theorem gPow_i (i j : Int) : gPow (.st (.int i)) (.st (.int j)) = if 0 ≤ j ∧ j ≤ 1000000 ∧ i.natAbs < 2 ^ 64 then some (.st (.int (i ^ j.toNat))) else none := by
  show Option.map OD.st (if _ then _ else _) = _
  split <;> rfl
theorem gAdd_s {x y : Str} (h : x.length + y.length ≤ big) : gAdd (.st (.str x)) (.st (.str y)) = some (.st (.str (x ++ y))) := by
  show gOr2 gAddI (gOr2 gAddS gCat) _ _ = _
  simp [gOr2, gAddI, gII, gAddS, gSS, h]
/-- a text by its signs -/
abbrev tx (l : List Nat) : Str := ⟨l.toArray⟩
theorem tx_self (z : Str) : tx z.cps.toList = z := by cases z; simp [tx]
theorem tx_len (l : List Nat) : (tx l).length = l.length := by simp [tx, Str.length]
theorem joinL0 : ∀ ls : List (List Nat), TL.joinL [] ls = ls.flatten
  | [] => rfl
  | [p] => by simp [TL.joinL]
  | p :: q :: r => by
    show p ++ ([] ++ TL.joinL [] (q :: r)) = _
    rw [joinL0 (q :: r)]
    simp
theorem str0 : Str.ofString "" = tx [] := by decide +kernel
theorem join0 (ls : List (List Nat)) : Txt.join (Str.ofString "") (ls.map tx) = tx ls.flatten := by
  rw [str0, ← joinL0]
  exact SX.join_S [] ls
/-! ### loops -/
theorem compL_t {own : List Nat} {tg : Fg} {tt : Ft} {te : Fe} {d : D} {ds : List D} {ρ ρ1 ρ2 ρ3 : Rho} {acc : List OD} {o : OD} (h1 : tg (.st d) ρ = some ρ1) (h2 : tt ρ1 = some (true, ρ2)) (h3 : te ρ2 = some (o, ρ3)) (h4 : acc.length ≤ big) :
    compL own tg tt te (d :: ds) ρ acc = compL own tg tt te ds (wipeR ρ3 own) (acc ++ [o]) := by
  simp only [compL, h1, h2, h3, if_pos h4]
theorem compL_f {own : List Nat} {tg : Fg} {tt : Ft} {te : Fe} {d : D} {ds : List D} {ρ ρ1 ρ2 : Rho} {acc : List OD} (h1 : tg (.st d) ρ = some ρ1) (h2 : tt ρ1 = some (false, ρ2)) :
    compL own tg tt te (d :: ds) ρ acc = compL own tg tt te ds (wipeR ρ2 own) acc := by
  simp only [compL, h1, h2]
/-- a comprehension that leaves the slots as they were -/
theorem compL_pure {own : List Nat} {tg : Fg} {tt : Ft} {te : Fe} {ρ0 : Rho} {p : D → Bool} {g : D → OD} : ∀ {ds : List D} {acc : List OD},
    (∀ d ∈ ds, ∃ ρ1 ρ2, tg (.st d) ρ0 = some ρ1 ∧ tt ρ1 = some (p d, ρ2) ∧ (p d = false → wipeR ρ2 own = ρ0) ∧ (p d = true → ∃ ρ3, te ρ2 = some (g d, ρ3) ∧ wipeR ρ3 own = ρ0)) → acc.length + ds.length ≤ big →
    compL own tg tt te ds ρ0 acc = some (acc ++ (ds.filter p).map g, ρ0)
  | [], acc, _, _ => by simp [compL]
  | d :: ds, acc, h, hb => by
    simp only [List.length_cons] at hb
    obtain ⟨ρ1, ρ2, h1, h2, h3, h4⟩ := h d List.mem_cons_self
    have ih := fun acc => compL_pure (acc := acc) (fun x hx => h x (List.mem_cons_of_mem _ hx))
    cases hp : p d with
    | false =>
      rw [hp] at h2
      rw [compL_f h1 h2, h3 hp, ih acc (by omega)]
      simp [hp]
    | true =>
      rw [hp] at h2
      obtain ⟨ρ3, h5, h6⟩ := h4 hp
      rw [compL_t h1 h2 h5 (by omega), h6, ih _ (by simp; omega)]
      simp [hp]
/-- a for whose body always comes to its end -/
theorem loopF_inv {tg : Fg} {body : Fs} (I : Nat → Rho → Prop) : ∀ {ds : List D} {i : Nat} {ρ : Rho}, I i ρ →
    (∀ j d ρ, ds[j]? = some d → I (i + j) ρ → ∃ ρ1 ρ2, tg (.st d) ρ = some ρ1 ∧ body ρ1 = some (.nx ρ2) ∧ I (i + j + 1) ρ2) → ∃ ρ', loopF tg body ds ρ = some (.nx ρ') ∧ I (i + ds.length) ρ'
  | [], i, ρ, h, _ => ⟨ρ, rfl, h⟩
  | d :: ds, i, ρ, h, hs => by
    obtain ⟨ρ1, ρ2, h1, h2, h3⟩ := hs 0 d ρ rfl h
    obtain ⟨ρ', h4, h5⟩ := loopF_inv I (ds := ds) (i := i + 1) h3 (fun j x ρ hx hi => by
      have := hs (j + 1) x ρ (by simpa using hx) (by rw [show i + (j + 1) = i + 1 + j by omega]; exact hi)
      rw [show i + (j + 1) + 1 = i + 1 + j + 1 by omega] at this
      exact this)
    refine ⟨ρ', ?_, by rw [List.length_cons, show i + (ds.length + 1) = i + 1 + ds.length by omega]; exact h5⟩
    simp only [loopF, h1, h2]
    exact h4
/-- a while by a measure -/
theorem loopW_inv {c : Ft} {body : Fs} (I : Rho → Prop) (μ : Rho → Nat) (hs : ∀ ρ, I ρ → (∃ ρ1, c ρ = some (false, ρ1) ∧ True) ∨ ∃ ρ1 ρ2, c ρ = some (true, ρ1) ∧ body ρ1 = some (.nx ρ2) ∧ I ρ2 ∧ μ ρ2 < μ ρ) :
    ∀ (n : Nat) (ρ : Rho), I ρ → μ ρ < n → ∃ ρ0 ρ', loopW c body n ρ = some (.nx ρ') ∧ I ρ0 ∧ c ρ0 = some (false, ρ')
  | 0, _, _, h => absurd h (Nat.not_lt_zero _)
  | n + 1, ρ, h, hm => by
    rcases hs ρ h with ⟨ρ1, h1, _⟩ | ⟨ρ1, ρ2, h1, h2, h3, h4⟩
    · exact ⟨ρ, ρ1, by simp only [loopW, h1], h, h1⟩
    · obtain ⟨ρ0, ρ', h5, h6, h7⟩ := loopW_inv I μ hs n ρ2 h3 (by omega)
      exact ⟨ρ0, ρ', by simp only [loopW, h1, h2]; exact h5, h6, h7⟩
end Qy
namespace Qy
open PySem L2
theorem scAll_str : ∀ xs : List Str, scAll (xs.map .str) = some (xs.map .str)
  | [] => rfl
  | x :: r => by simp [scAll, scOf, scAll_str r]
theorem scAll_int : ∀ xs : List Int, scAll (xs.map .int) = some (xs.map .int)
  | [] => rfl
  | x :: r => by simp [scAll, scOf, scAll_int r]
theorem inV_str (x : Str) : ∀ xs : List Str, inV (.str x) (xs.map .str) = decide (x ∈ xs)
  | [] => rfl
  | y :: r => by
    have ih := inV_str x r
    unfold inV at ih ⊢
    rw [List.map_cons, List.any_cons, ih]
    show (y == x || decide (x ∈ r)) = _
    by_cases h : x = y
    · subst h; simp
    · have : (y == x) = false := beq_eq_false_iff_ne.mpr (Ne.symm h)
      rw [this]
      simp [h]
theorem inV_int (x : Int) : ∀ xs : List Int, inV (.int x) (xs.map .int) = decide (x ∈ xs)
  | [] => rfl
  | y :: r => by
    have ih := inV_int x r
    unfold inV at ih ⊢
    rw [List.map_cons, List.any_cons, ih]
    show (y == x || decide (x ∈ r)) = _
    by_cases h : x = y
    · subst h; simp
    · have : (y == x) = false := beq_eq_false_iff_ne.mpr (Ne.symm h)
      rw [this]
      simp [h]
/-- a list or a tuple of texts, of ints -/
def IsSeq (o : OD) (ds : List D) : Prop := o.rd = some (.lst ds) ∨ o.rd = some (.tup ds)
theorem in_str {neg : Bool} {x : Str} {xs : List Str} {o : OD} (h : IsSeq o (xs.map .str)) : gInF neg (.st (.str x)) o = some (.st (.bl (if neg then !decide (x ∈ xs) else decide (x ∈ xs)))) := by
  unfold gInF
  rcases h with h | h <;> rw [h] <;> simp [OD.rd, scOf, scAll_str, inV_str]
theorem in_int {neg : Bool} {x : Int} {xs : List Int} {o : OD} (h : IsSeq o (xs.map .int)) : gInF neg (.st (.int x)) o = some (.st (.bl (if neg then !decide (x ∈ xs) else decide (x ∈ xs)))) := by
  unfold gInF
  rcases h with h | h <;> rw [h] <;> simp [OD.rd, scOf, scAll_int, inV_int]
theorem notIn_str {x : Str} {xs : List Str} {o : OD} (h : IsSeq o (xs.map .str)) : gNotInQ (.st (.str x)) o = some (.st (.bl (!decide (x ∈ xs)))) := by
  unfold gNotInQ gOr2
  rw [in_str h]
  rfl
theorem notIn_int {x : Int} {xs : List Int} {o : OD} (h : IsSeq o (xs.map .int)) : gNotInQ (.st (.int x)) o = some (.st (.bl (!decide (x ∈ xs)))) := by
  unfold gNotInQ gOr2
  rw [in_int h]
  rfl
theorem inS_none {a : D} {o : OD} {ds : List D} (h : IsSeq o ds) : gInS (.st a) o = none := by
  unfold gInS gSS
  split
  · rename_i i j h1 h2
    rcases h with h | h <;> simp [OD.rd] at h
  · rfl
theorem inQ_str {x : Str} {xs : List Str} {o : OD} (h : IsSeq o (xs.map .str)) : gInQ (.st (.str x)) o = some (.st (.bl (decide (x ∈ xs)))) := by
  unfold gInQ gOr2
  rw [inS_none h]
  simp only
  rw [in_str h]
  rfl
theorem inQ_int {x : Int} {xs : List Int} {o : OD} (h : IsSeq o (xs.map .int)) : gInQ (.st (.int x)) o = some (.st (.bl (decide (x ∈ xs)))) := by
  unfold gInQ gOr2
  rw [inS_none h]
  simp only
  rw [in_int h]
  rfl
/-- a list of texts by their signs -/
abbrev wD (ws : List (List Nat)) : List D := ws.map fun l => .str (tx l)
abbrev wO (ws : List (List Nat)) : OD := .ol ((wD ws).map .st)
theorem tx_inj {a b : List Nat} (h : tx a = tx b) : a = b := by
  have := congrArg (fun s : Str => s.cps.toList) h
  simpa using this
theorem mem_tx {l : List Nat} {ws : List (List Nat)} : tx l ∈ ws.map tx ↔ l ∈ ws := by
  constructor
  · intro h
    obtain ⟨m, hm, e⟩ := List.mem_map.mp h
    rw [← tx_inj e]; exact hm
  · exact fun h => List.mem_map.mpr ⟨l, h, rfl⟩
theorem wD_eq (ws : List (List Nat)) : wD ws = (ws.map tx).map .str := by rw [List.map_map]; rfl
theorem seq_wO (ws : List (List Nat)) : IsSeq (wO ws) ((ws.map tx).map .str) := .inl (by
  show (stAll _).map D.lst = _
  rw [stAll_map, wD_eq]
  rfl)
theorem seq_wL (ws : List (List Nat)) : IsSeq (.st (.lst (wD ws))) ((ws.map tx).map .str) := .inl (by rw [← wD_eq]; rfl)
theorem seq_wT (ws : List (List Nat)) : IsSeq (.st (.tup (wD ws))) ((ws.map tx).map .str) := .inr (by rw [← wD_eq]; rfl)
theorem notIn_w {l : List Nat} {ws : List (List Nat)} {o : OD} (h : IsSeq o ((ws.map tx).map .str)) : gNotInQ (.st (.str (tx l))) o = some (.st (.bl (!decide (l ∈ ws)))) := by
  rw [notIn_str h]
  simp only [mem_tx]
theorem in_w {l : List Nat} {ws : List (List Nat)} {o : OD} (h : IsSeq o ((ws.map tx).map .str)) : gInQ (.st (.str (tx l))) o = some (.st (.bl (decide (l ∈ ws)))) := by
  rw [inQ_str h]
  simp only [mem_tx]
/-! ### data of texts -/
def Sm (l : List Nat) : Prop := ∀ c ∈ l, c < 1114112
theorem strOk_tx {l : List Nat} (h : Sm l) : PyData.strOk (tx l) = true := by
  unfold PyData.strOk
  rw [← Array.all_toList]
  exact List.all_eq_true.mpr fun c hc => by simpa using h c (by simpa using hc)
theorem pyL_w : ∀ ws : List (List Nat), pyL (wD ws) = some (ws.map fun l => .str (tx l))
  | [] => rfl
  | l :: r => by
    show (match (D.str (tx l)).py, pyL (wD r) with | some p, some ps => some (p :: ps) | _, _ => none) = _
    rw [pyL_w r]
    rfl
theorem lay_w : ∀ {ws : List (List Nat)}, (∀ l ∈ ws, Sm l) → PyData.canLayAll0 (ws.map fun l => .str (tx l)) = true
  | [], _ => rfl
  | l :: r, h => by
    show (PyData.canLay0 (.str (tx l)) && PyData.canLayAll0 _) = true
    rw [lay_w fun x hx => h x (List.mem_cons_of_mem _ hx), Bool.and_true]
    exact strOk_tx (h l List.mem_cons_self)
theorem depth_w : ∀ ws : List (List Nat), PyData.depthAll (ws.map fun l => .str (tx l)) = 0
  | [] => rfl
  | l :: r => by
    show max (PyData.depth (.str (tx l))) (PyData.depthAll _) = 0
    rw [depth_w r]
    rfl
theorem shaped_s {l : List Nat} (h : Sm l) : SeqAt.shaped (.str (tx l)) = true := by
  unfold SeqAt.shaped
  rw [show PyData.canLay0 (.str (tx l)) = true from strOk_tx h]
  rfl
theorem shaped_w {ws : List (List Nat)} (h : ∀ l ∈ ws, Sm l) : SeqAt.shaped (.list (ws.map fun l => .str (tx l))) = true := by
  unfold SeqAt.shaped
  rw [show PyData.canLay0 (.list (ws.map fun l => .str (tx l))) = true from lay_w h]
  show (true && decide (PyData.depthAll _ + 1 ≤ 64)) = true
  rw [depth_w]
  rfl
theorem eqv_s (a b : List Nat) : PyData.eqv (.str (tx a)) (.str (tx b)) = decide (a = b) := by
  show (tx a == tx b) = _
  by_cases h : a = b
  · subst h; simp
  · have : (tx a == tx b) = false := beq_eq_false_iff_ne.mpr fun z => h (tx_inj z)
    rw [this]; simp [h]
theorem neS {a b : List Nat} (ha : Sm a) (hb : Sm b) : gNe (.st (.str (tx a))) (.st (.str (tx b))) = some (.st (.bl (!decide (a = b)))) := by
  show (if SeqAt.shaped (.str (tx a)) = true ∧ SeqAt.shaped (.str (tx b)) = true then _ else _) = _
  rw [if_pos ⟨shaped_s ha, shaped_s hb⟩, eqv_s]
theorem eqS {a b : List Nat} (ha : Sm a) (hb : Sm b) : gEq (.st (.str (tx a))) (.st (.str (tx b))) = some (.st (.bl (decide (a = b)))) := by
  show (if SeqAt.shaped (.str (tx a)) = true ∧ SeqAt.shaped (.str (tx b)) = true then _ else _) = _
  rw [if_pos ⟨shaped_s ha, shaped_s hb⟩, eqv_s]
theorem neL {ws : List (List Nat)} (h : ∀ l ∈ ws, Sm l) : gNe (.st (.lst (wD ws))) (.ol []) = some (.st (.bl (!decide (ws = [])))) := by
  have e1 : OD.py (.st (.lst (wD ws))) = some (.list (ws.map fun l => .str (tx l))) := by
    show (pyL (wD ws)).map PyData.list = _
    rw [pyL_w]
    rfl
  have e2 : OD.py (.ol []) = some (.list []) := rfl
  unfold gNe
  rw [e1, e2]
  simp only
  rw [if_pos ⟨shaped_w h, rfl⟩]
  cases ws with
  | nil => rfl
  | cons a r => rfl
end Qy
set_option Elab.async false
set_option linter.all false
set_option maxRecDepth 100000
set_option maxHeartbeats 400000
/-! sorted: the order of data is total; lists with the same members are sorted alike. -/
namespace Qy
open PySem L2
abbrev tk (d : D) : List (Int ⊕ List Nat) := W.keyToks (pyD d)
theorem leD_total : W.TotalLe leD := W.sortLe_total _ false _
theorem leD_anti {a b : D} (h1 : leD a b = true) (h2 : leD b a = true) : tk a = tk b := by
  have e1 : PyProof.Rows.lexLt PyProof.Rows.itemOrd (tk b) (tk a) = false := by
    have : (!PyProof.Rows.lexLt PyProof.Rows.itemOrd (tk b) (tk a)) = true := h1
    simpa using this
  have e2 : PyProof.Rows.lexLt PyProof.Rows.itemOrd (tk a) (tk b) = false := by
    have : (!PyProof.Rows.lexLt PyProof.Rows.itemOrd (tk a) (tk b)) = true := h2
    simpa using this
  exact (PyProof.Rows.listOrd PyProof.Rows.itemOrd).total _ _ e2 e1
theorem sorted_leD (xs : List D) : (xs.mergeSort leD).Pairwise fun a b => leD a b = true := by
  exact List.pairwise_mergeSort (fun a b c => leD_total.trans a b c) (fun a b => by simpa using leD_total.total a b) xs
theorem sort_perm {xs ys : List D} (p : xs.Perm ys) (inj : ∀ a ∈ xs, ∀ b ∈ xs, tk a = tk b → a = b) : xs.mergeSort leD = ys.mergeSort leD := by
  have p1 := List.mergeSort_perm xs leD
  have p2 := List.mergeSort_perm ys leD
  refine List.Perm.eq_of_pairwise (fun a b ha hb h1 h2 => ?_) (sorted_leD xs) (sorted_leD ys) (p1.trans (p.trans p2.symm))
  exact inj a (p1.mem_iff.mp ha) b (p.symm.mem_iff.mp (p2.mem_iff.mp hb)) (leD_anti h1 h2)
/-- what stands in order stays -/
theorem sort_self {xs : List D} (h : xs.Pairwise fun a b => leD a b = true) : xs.mergeSort leD = xs := List.mergeSort_of_pairwise h
end Qy
set_option Elab.async false
set_option linter.all false
set_option maxRecDepth 100000
set_option maxHeartbeats 400000
/-! Places reached by links; lists of ints that have the same members. -/
namespace Qy
open PySem L2
/-- reached from s along the links E -/
inductive Rch (E : List (Int × Int)) (s : Int) : Int → Prop
  | here : Rch E s s
  | step {a b : Int} : Rch E s a → (a, b) ∈ E → Rch E s b
theorem Rch.trans {E : List (Int × Int)} {a b c : Int} (h1 : Rch E a b) (h2 : Rch E b c) : Rch E a c := by
  induction h2 with
  | here => exact h1
  | step _ e ih => exact .step ih e
/-- a closed set that has s has all that is reached -/
theorem Rch.closed {E : List (Int × Int)} {s x : Int} {P : Int → Prop} (h : Rch E s x) (h0 : P s) (hc : ∀ a b, P a → (a, b) ∈ E → P b) : P x := by
  induction h with
  | here => exact h0
  | step _ e ih => exact hc _ _ ih e
theorem Rch.mono {E E' : List (Int × Int)} {s x : Int} (h : Rch E s x) (hs : ∀ p ∈ E, p ∈ E') : Rch E' s x := by
  induction h with
  | here => exact .here
  | step _ e ih => exact .step ih (hs _ e)
/-- links taken both ways -/
def both (E : List (Int × Int)) : List (Int × Int) := E ++ E.map fun p => (p.2, p.1)
theorem both_mem {E : List (Int × Int)} {a b : Int} : (a, b) ∈ both E ↔ (a, b) ∈ E ∨ (b, a) ∈ E := by
  unfold both
  rw [List.mem_append, List.mem_map]
  constructor
  · rintro (h | ⟨p, hp, e⟩)
    · exact .inl h
    · cases e; exact .inr hp
  · rintro (h | h)
    · exact .inl h
    · exact .inr ⟨(b, a), h, rfl⟩
theorem Rch.symm {E : List (Int × Int)} {a b : Int} (h : Rch (both E) a b) : Rch (both E) b a := by
  induction h with
  | here => exact .here
  | step _ e ih => exact Rch.trans (.step .here (both_mem.mpr (both_mem.mp e).symm)) ih
theorem sortI_perm (ks : List Int) : (sortI ks).Perm ks := List.mergeSort_perm ks _
theorem sortI_mem {ks : List Int} {x : Int} : x ∈ sortI ks ↔ x ∈ ks := (sortI_perm ks).mem_iff
theorem sortI_sorted (ks : List Int) : (sortI ks).Pairwise (· ≤ ·) := by
  have := List.pairwise_mergeSort (le := fun (a b : Int) => decide (a ≤ b)) (by intro a b c; simp; omega) (by intro a b; simp; omega) ks
  exact this.imp (by intro a b h; simpa using h)
/-- the same members, none twice: sorted alike -/
theorem sortI_same {a b : List Int} (ha : a.Nodup) (hb : b.Nodup) (h : ∀ x, x ∈ a ↔ x ∈ b) : sortI a = sortI b :=
  sortI_eq ((sortI_perm a).trans (List.perm_iff_count.mpr fun x => by
    rw [ha.count, hb.count]
    simp only [h x])) (sortI_sorted a)
end Qy
set_option Elab.async false
set_option linter.all false
set_option maxRecDepth 100000
set_option maxHeartbeats 400000
/-! Lists of ints as data; dicts of ints; what is reached, as a list. -/
namespace Qy
open PySem L2
theorem big0 : (0 ≤ big) = True := eq_true (by decide)
theorem big1 : (1 ≤ big) = True := eq_true (by decide)
theorem big2 : (2 ≤ big) = True := eq_true (by decide)
theorem big3 : (3 ≤ big) = True := eq_true (by decide)
theorem big4 : (4 ≤ big) = True := eq_true (by decide)
theorem big5 : (5 ≤ big) = True := eq_true (by decide)
abbrev iD (ks : List Int) : List D := ks.map .int
abbrev iO (ks : List Int) : OD := .ol ((iD ks).map .st)
theorem val_iO (ks : List Int) : OD.val (iO ks) = .lst (iD ks) := by
  show D.lst (valL _) = _
  rw [valL_map, List.map_map]
  congr 1
  exact List.map_id' _
theorem rd_ol (ds : List D) : OD.rd (.ol (ds.map .st)) = some (.lst ds) := by
  show (stAll _).map D.lst = _
  rw [stAll_map]
  rfl
theorem val_ol (ds : List D) : OD.val (.ol (ds.map .st)) = .lst ds := by
  show D.lst (valL _) = _
  rw [valL_map, List.map_map]
  congr 1
  exact List.map_id' _
theorem valL_st (ds : List D) : valL (ds.map .st) = ds := by
  rw [valL_map, List.map_map]
  exact List.map_id' _
theorem pyL_i : ∀ ks : List Int, pyL (iD ks) = some (ks.map .int)
  | [] => rfl
  | l :: r => by
    show (match (D.int l).py, pyL (iD r) with | some p, some ps => some (p :: ps) | _, _ => none) = _
    rw [pyL_i r]
    rfl
theorem lay_i : ∀ ks : List Int, PyData.canLayAll0 (ks.map .int) = true
  | [] => rfl
  | l :: r => by
    show (PyData.canLay0 (.int l) && PyData.canLayAll0 _) = true
    rw [lay_i r]
    rfl
theorem depth_i : ∀ ks : List Int, PyData.depthAll (ks.map .int) = 0
  | [] => rfl
  | l :: r => by
    show max (PyData.depth (.int l)) (PyData.depthAll _) = 0
    rw [depth_i r]
    rfl
theorem shaped_i (ks : List Int) : SeqAt.shaped (.list (ks.map .int)) = true := by
  unfold SeqAt.shaped
  rw [show PyData.canLay0 (.list (ks.map .int)) = true from lay_i ks]
  show (true && decide (PyData.depthAll _ + 1 ≤ 64)) = true
  rw [depth_i]
  rfl
theorem py_iO (ks : List Int) : OD.py (iO ks) = some (.list (ks.map .int)) := by
  unfold OD.py
  rw [val_iO]
  show (pyL _).map PyData.list = _
  rw [pyL_i]
  rfl
theorem neI0 (ks : List Int) : gNe (iO ks) (.ol []) = some (.st (.bl (!decide (ks = [])))) := by
  have e2 : OD.py (.ol []) = some (.list []) := rfl
  unfold gNe
  rw [py_iO, e2]
  simp only
  rw [if_pos ⟨shaped_i ks, rfl⟩]
  cases ks with
  | nil => rfl
  | cons a r => rfl
theorem gAdd_l {x y : OD} {xs ys : List D} (hx : x.rd = some (.lst xs)) (hy : y.rd = some (.lst ys)) (h : xs.length + ys.length ≤ big) : gAdd x y = some (.ol ((xs ++ ys).map .st)) := by
  have e1 : gAddI x y = none := by
    cases x with
    | st d => cases hx; rfl
    | _ => rfl
  have e2 : gAddS x y = none := by
    cases x with
    | st d => cases hx; rfl
    | _ => rfl
  show gOr2 gAddI (gOr2 gAddS gCat) x y = _
  unfold gOr2
  rw [e1]
  simp only
  rw [e2]
  simp only [gCat, hx, hy, if_pos h]
/-! ### dicts -/
theorem valA_nil {α : Type} (k : Key) : valA ([] : List (Key × α)) k = none := rfl
theorem valA_cons {α : Type} (p : Key × α) (r : List (Key × α)) (k : Key) : valA (p :: r) k = if p.1 = k then some p.2 else valA r k := by
  unfold valA
  rw [List.find?_cons]
  by_cases h : p.1 = k
  · simp [h]
  · simp [h]
theorem valA_map {α : Type} (k k' : Key) (v : α) : ∀ kvs : List (Key × α), valA (kvs.map fun kv => if kv.1 = k then (kv.1, v) else kv) k' = if k = k' ∧ (kvs.any fun kv => decide (kv.1 = k)) = true then some v else valA kvs k'
  | [] => by simp [valA_nil]
  | p :: r => by
    rw [List.map_cons, valA_cons, valA_map k k' v r, valA_cons, List.any_cons]
    by_cases h1 : p.1 = k
    · rw [if_pos h1]
      by_cases h2 : k = k'
      · simp [h1, h2]
      · have : ¬ p.1 = k' := fun z => h2 (h1.symm.trans z)
        simp [h1, h2, this]
    · rw [if_neg h1]
      by_cases h2 : k = k'
      · subst h2
        have hd : decide (p.1 = k) = false := by simpa using h1
        rw [hd, Bool.false_or]
        simp [h1]
      · simp [h1, h2]
theorem valA_app {α : Type} (k k' : Key) (v : α) : ∀ kvs : List (Key × α), (kvs.any fun kv => decide (kv.1 = k)) = false → valA (kvs ++ [(k, v)]) k' = if k = k' then some v else valA kvs k'
  | [], _ => by simp [valA_cons, valA_nil]
  | p :: r, h => by
    rw [List.any_cons, Bool.or_eq_false_iff] at h
    have h1 : ¬ p.1 = k := by simpa using h.1
    rw [List.cons_append, valA_cons, valA_app k k' v r h.2, valA_cons]
    by_cases h2 : k = k'
    · subst h2; simp [h1]
    · simp [h2]
theorem valA_put {α : Type} (kvs : List (Key × α)) (k k' : Key) (v : α) : valA (putA kvs k v) k' = if k = k' then some v else valA kvs k' := by
  unfold putA
  by_cases h : (kvs.any fun kv => decide (kv.1 = k)) = true
  · rw [if_pos h, valA_map, h]
    simp
  · rw [if_neg h, valA_app _ _ _ _ (Bool.eq_false_iff.mpr h)]
theorem len_put {α : Type} (kvs : List (Key × α)) (k : Key) (v : α) : (putA kvs k v).length ≤ kvs.length + 1 := by
  unfold putA
  split <;> simp
abbrev kB (ks : List Int) : List (Key × D) := ks.map fun x => (.inl x, .bl true)
theorem any_kB (g : Int) : ∀ ks : List Int, ((kB ks).any fun kv => decide (kv.1 = .inl g)) = decide (g ∈ ks)
  | [] => rfl
  | a :: r => by
    show (decide ((Sum.inl a : Key) = .inl g) || _) = _
    rw [any_kB g r]
    by_cases h : a = g
    · subst h; simp
    · have : g ≠ a := fun z => h z.symm
      simp [h, this]
theorem valA_kB (g : Int) : ∀ ks : List Int, (valA (kB ks) (.inl g)).isSome = decide (g ∈ ks)
  | [] => rfl
  | a :: r => by
    show (valA ((Sum.inl a, D.bl true) :: kB r) (.inl g)).isSome = _
    rw [valA_cons]
    by_cases h : a = g
    · subst h; simp
    · have : g ≠ a := fun z => h z.symm
      have h' : ¬ ((Sum.inl a : Key) = .inl g) := fun z => h (Sum.inl.inj z)
      rw [if_neg h', valA_kB g r]
      simp [this]
theorem put_new {ks : List Int} {g : Int} (h : g ∉ ks) : putA (kB ks) (.inl g) (.bl true) = kB (ks ++ [g]) := by
  unfold putA
  rw [any_kB, if_neg (by simpa using h)]
  simp
theorem put_old {ks : List Int} {g : Int} (h : g ∈ ks) : putA (kB ks) (.inl g) (.bl true) = kB ks := by
  unfold putA
  rw [any_kB, if_pos (by simpa using h), List.map_map]
  refine List.map_congr_left fun x _ => ?_
  simp only [Function.comp]
  split
  · rfl
  · rfl
theorem intsK_kB : ∀ ks : List Int, intsK (kB ks) = some ks
  | [] => rfl
  | a :: r => by
    show (intsK (kB r)).map (a :: ·) = _
    rw [intsK_kB r]
    rfl
theorem sortedD_kB {ks : List Int} (h : ks.length < 64) : gSortedD (.oK (stD (kB ks))) = some (iO (sortI ks)) := by
  have e : OD.rd (.oK (stD (kB ks))) = some (.dK (kB ks)) := by
    show (stK _).map D.dK = _
    rw [stK_map]
    rfl
  unfold gSortedD
  rw [e]
  simp only [intsK_kB, if_pos h]
  simp only [iO, iD, List.map_map]
  rfl
/-! ### lists without repetition below a bound -/
theorem nodup_le : ∀ (n : Nat) (ks : List Int), ks.Nodup → (∀ x ∈ ks, 0 ≤ x ∧ x < (n : Int)) → ks.length ≤ n
  | 0, [], _, _ => Nat.le_refl _
  | 0, a :: _, _, h => by have := h a List.mem_cons_self; omega
  | n + 1, ks, nd, h => by
    have h1 := nodup_le n (ks.erase (n : Int)) (nd.erase _) (fun x hx => by
      have hx' := List.mem_of_mem_erase hx
      have := h x hx'
      have hne : x ≠ (n : Int) := fun z => by
        subst z
        exact (List.Nodup.not_mem_erase nd) hx
      omega)
    have := List.length_erase_le (a := (n : Int)) (l := ks)
    have h2 : ks.length ≤ (ks.erase (n : Int)).length + 1 := by
      rw [List.length_erase]
      split <;> omega
    omega
/-- the places below n that are reached from s -/
noncomputable def rl (E : List (Int × Int)) (n : Nat) (s : Int) : List Int := by
  classical
  exact ((List.range n).map fun (i : Nat) => (i : Int)).filter fun x => decide (Rch E s x)
theorem rl_mem {E : List (Int × Int)} {n : Nat} {s x : Int} : x ∈ rl E n s ↔ (0 ≤ x ∧ x < (n : Int)) ∧ Rch E s x := by
  classical
  unfold rl
  rw [List.mem_filter, List.mem_map]
  constructor
  · rintro ⟨⟨i, hi, rfl⟩, h⟩
    have := List.mem_range.mp hi
    exact ⟨by omega, by simpa using h⟩
  · rintro ⟨h1, h2⟩
    exact ⟨⟨x.toNat, List.mem_range.mpr (by omega), by omega⟩, by simpa using h2⟩
theorem rng_lt (n : Nat) : ((List.range n).map fun (i : Nat) => (i : Int)).Pairwise (· < ·) := by
  rw [List.pairwise_map]
  exact List.pairwise_lt_range.imp fun h => by omega
theorem rl_lt (E : List (Int × Int)) (n : Nat) (s : Int) : (rl E n s).Pairwise (· < ·) := by
  unfold rl
  exact (rng_lt n).filter _
theorem rl_nodup (E : List (Int × Int)) (n : Nat) (s : Int) : (rl E n s).Nodup := (rl_lt E n s).imp fun h => by omega
theorem rl_len (E : List (Int × Int)) (n : Nat) (s : Int) : (rl E n s).length ≤ n := nodup_le n _ (rl_nodup E n s) fun x hx => (rl_mem.mp hx).1
theorem sort_rl {E : List (Int × Int)} {n : Nat} {s : Int} {ks : List Int} (nd : ks.Nodup) (hb : ∀ x, Rch E s x → 0 ≤ x ∧ x < (n : Int)) (h : ∀ x, x ∈ ks ↔ Rch E s x) : sortI ks = rl E n s := by
  have e : sortI ks = sortI (rl E n s) := sortI_same nd (rl_nodup E n s) fun x => by
    rw [h x, rl_mem]
    exact ⟨fun z => ⟨hb x z, z⟩, fun z => z.2⟩
  rw [e]
  exact (sortI_eq (.refl _) ((rl_lt E n s).imp fun h => by omega)).symm
end Qy
set_option Elab.async false
set_option linter.all false
set_option maxRecDepth 100000
set_option maxHeartbeats 400000
/-! repr of small data. -/
namespace Qy
open PySem L2
def Sok (z : Str) : Prop := ∀ c ∈ z.cps.toList, c < 1114112
theorem Sok.append {a b : Str} (ha : Sok a) (hb : Sok b) : Sok (a ++ b) := fun c hc => by
  have e : (a ++ b).cps.toList = a.cps.toList ++ b.cps.toList := by
    show (a.cps ++ b.cps).toList = _
    simp
  rw [e] at hc
  rcases List.mem_append.mp hc with h | h
  · exact ha c h
  · exact hb c h
theorem char_lt (c : Char) : c.toNat < 1114112 := by
  have h := c.valid
  rcases h with h | h
  · show c.val.toNat < _
    have : c.val.toNat < 0xd800 := h
    omega
  · exact h.2
theorem sok_of (s : String) : Sok (Str.ofString s) := fun c hc => by
  rw [Str.ofString_eq_toList] at hc
  have : c ∈ s.toList.map Char.toNat := by simpa using hc
  obtain ⟨d, _, rfl⟩ := List.mem_map.mp this
  exact char_lt d
theorem sok_join : ∀ {ts : List Str}, (∀ t ∈ ts, Sok t) → Sok (Str.join ", " ts)
  | [], _ => fun c hc => by
    have : c ∈ ([] : List Nat) := hc
    cases this
  | [t], h => h t List.mem_cons_self
  | t :: u :: r, h => by
    show Sok (t ++ ", " ++ Str.join ", " (u :: r))
    exact ((h t List.mem_cons_self).append (sok_of _)).append (sok_join fun x hx => h x (List.mem_cons_of_mem _ hx))
structure Rep (w k : Nat) (d : PyData) : Prop where
  sh : d.showable = true
  hd : d.hasDict = false
  dp : d.depth ≤ k
  lv : d.leavesShort 13 = true
  wt : d.weight ≤ w
  sk : Sok d.shown
theorem Rep.le {w w' k k' : Nat} {d : PyData} (h : Rep w k d) (hw : w ≤ w') (hk : k ≤ k') : Rep w' k' d := ⟨h.sh, h.hd, Nat.le_trans h.dp hk, h.lv, Nat.le_trans h.wt hw, h.sk⟩
theorem rep_none : Rep 0 0 .none := ⟨rfl, rfl, Nat.zero_le _, rfl, Nat.le_refl _, by rw [PyData.shown_none]; exact sok_of _⟩
theorem rep_bool (b : Bool) : Rep 0 0 (.bool b) := ⟨rfl, rfl, Nat.zero_le _, rfl, Nat.le_refl _, by rw [PyData.shown_bool]; cases b <;> exact sok_of _⟩
theorem rep_int {i : Int} (h : i.natAbs < 10 ^ 12) : Rep 41 0 (.int i) := by
  have hl : i.natAbs ≠ 0 → i.natAbs.log2 < 40 := fun h0 => (Nat.log2_lt h0).mpr (Nat.lt_of_lt_of_le h (by decide))
  have hl' : i.natAbs.log2 < 40 := by
    by_cases h0 : i.natAbs = 0
    · rw [h0]; decide
    · exact hl h0
  refine ⟨?_, rfl, Nat.zero_le _, ?_, ?_, by rw [PyData.shown_int]; exact sok_of _⟩
  · show decide (i.natAbs.log2 < 1920) = true
    simp; omega
  · show decide ((PyData.shown (.int i)).length ≤ 13) = true
    simpa using PyData.shown_int_le h
  · show (if i == 0 then 0 else i.natAbs.log2 + 1) ≤ 41
    split <;> omega
theorem rep_all {w k : Nat} : ∀ {xs : List PyData}, (∀ x ∈ xs, Rep w k x) → PyData.showableAll xs = true ∧ PyData.hasDictAll xs = false ∧ PyData.depthAll xs ≤ k ∧ PyData.leavesShortAll 13 xs = true ∧ PyData.weightAll xs ≤ (w + 1) * xs.length ∧ ∀ t ∈ PyData.shownAll xs, Sok t
  | [], _ => ⟨rfl, rfl, Nat.zero_le _, rfl, Nat.le_refl _, fun t ht => by simp [PyData.shownAll] at ht⟩
  | x :: xs, h => by
    obtain ⟨h1, h2, h3, h4, h5, h6⟩ := rep_all (xs := xs) fun y hy => h y (List.mem_cons_of_mem _ hy)
    have hx := h x List.mem_cons_self
    refine ⟨?_, ?_, ?_, ?_, ?_, ?_⟩
    · show (x.showable && _) = true
      rw [hx.sh, h1]; rfl
    · show (x.hasDict || _) = false
      rw [hx.hd, h2]; rfl
    · show max x.depth _ ≤ k
      have := hx.dp
      omega
    · show (x.leavesShort 13 && _) = true
      rw [hx.lv, h4]; rfl
    · show x.weight + 1 + PyData.weightAll xs ≤ _
      have := hx.wt
      rw [List.length_cons, Nat.mul_succ]
      omega
    · intro t ht
      rw [PyData.shownAll_cons] at ht
      rcases List.mem_cons.mp ht with rfl | ht
      · exact hx.sk
      · exact h6 t ht
theorem rep_list {w k n : Nat} {xs : List PyData} (h : ∀ x ∈ xs, Rep w k x) (hn : xs.length ≤ n) : Rep ((w + 1) * n) (k + 1) (.list xs) := by
  obtain ⟨h1, h2, h3, h4, h5, h6⟩ := rep_all h
  refine ⟨h1, h2, ?_, h4, Nat.le_trans h5 (Nat.mul_le_mul_left _ hn), ?_⟩
  · show PyData.depthAll xs + 1 ≤ k + 1
    omega
  · rw [PyData.shown_list]
    exact ((sok_of _).append (sok_join h6)).append (sok_of _)
theorem rep_tuple {w k n : Nat} {xs : List PyData} (h : ∀ x ∈ xs, Rep w k x) (hn : xs.length ≤ n) : Rep ((w + 1) * n) (k + 1) (.tuple xs) := by
  obtain ⟨h1, h2, h3, h4, h5, h6⟩ := rep_all h
  refine ⟨h1, h2, ?_, h4, Nat.le_trans h5 (Nat.mul_le_mul_left _ hn), ?_⟩
  · show PyData.depthAll xs + 1 ≤ k + 1
    omega
  · rw [PyData.shown_tuple]
    exact ((sok_of _).append (sok_join h6)).append (sok_of _)
theorem rep_ints {n : Nat} {ks : List Int} (h : ∀ i ∈ ks, i.natAbs < 10 ^ 12) (hn : ks.length ≤ n) : Rep (42 * n) 1 (.list (ks.map .int)) :=
  rep_list (w := 41) (k := 0) (fun x hx => by
    obtain ⟨i, hi, rfl⟩ := List.mem_map.mp hx
    exact rep_int (h i hi)) (by simpa using hn)
theorem repr_rep {o : OD} {P : PyData} {w k : Nat} (hp : o.py = some P) (h : Rep w k P) (hw : 15 * w + 13 ≤ 1000000) (hk : k ≤ 64) : gRepr o = some (.st (.str P.shown)) := by
  unfold gRepr
  rw [hp]
  simp only
  have := PyData.shown_le 13 (by decide) P h.lv
  have h2 : (13 + 2) * P.weight ≤ 15 * w := Nat.mul_le_mul_left _ h.wt
  have h3 := h.dp
  rw [if_pos ⟨h.sh, h.hd, by omega, by unfold big; omega⟩]
theorem shaped_sok {z : Str} (h : Sok z) : SeqAt.shaped (.str z) = true := by
  rw [← tx_self z]
  exact shaped_s fun c hc => h c hc
theorem ne_same {z : Str} (h : Sok z) : gNe (.st (.str z)) (.st (.str z)) = some (.st (.bl false)) := by
  show (if SeqAt.shaped (.str z) = true ∧ SeqAt.shaped (.str z) = true then _ else _) = _
  rw [if_pos ⟨shaped_sok h, shaped_sok h⟩]
  show some (OD.st (.bl (!(z == z)))) = _
  simp
theorem eq_same {z : Str} (h : Sok z) : gEq (.st (.str z)) (.st (.str z)) = some (.st (.bl true)) := by
  show (if SeqAt.shaped (.str z) = true ∧ SeqAt.shaped (.str z) = true then _ else _) = _
  rw [if_pos ⟨shaped_sok h, shaped_sok h⟩]
  show some (OD.st (.bl (z == z))) = _
  simp
/-- a comprehension whose slots keep an invariant -/
theorem compL_inv {own : List Nat} {tg : Fg} {tt : Ft} {te : Fe} (I : Rho → Prop) {p : D → Bool} {g : D → OD} : ∀ {ds : List D} {acc : List OD} {ρ : Rho}, I ρ →
    (∀ d ∈ ds, ∀ ρ, I ρ → ∃ ρ1 ρ2, tg (.st d) ρ = some ρ1 ∧ tt ρ1 = some (p d, ρ2) ∧ (p d = false → I (wipeR ρ2 own)) ∧ (p d = true → ∃ ρ3, te ρ2 = some (g d, ρ3) ∧ I (wipeR ρ3 own))) → acc.length + ds.length ≤ big →
    ∃ ρ', compL own tg tt te ds ρ acc = some (acc ++ (ds.filter p).map g, ρ') ∧ I ρ'
  | [], acc, ρ, h0, _, _ => ⟨ρ, by simp [compL], h0⟩
  | d :: ds, acc, ρ, h0, h, hb => by
    simp only [List.length_cons] at hb
    obtain ⟨ρ1, ρ2, h1, h2, h3, h4⟩ := h d List.mem_cons_self ρ h0
    have ih := fun acc ρ h0 hb => compL_inv I (ds := ds) (acc := acc) (ρ := ρ) h0 (fun x hx => h x (List.mem_cons_of_mem _ hx)) hb
    cases hp : p d with
    | false =>
      rw [hp] at h2
      obtain ⟨ρ', e, hi⟩ := ih acc _ (h3 hp) (by omega)
      exact ⟨ρ', by rw [compL_f h1 h2, e]; simp [hp], hi⟩
    | true =>
      rw [hp] at h2
      obtain ⟨ρ3, h5, h6⟩ := h4 hp
      obtain ⟨ρ', e, hi⟩ := ih (acc ++ [g d]) _ h6 (by simp; omega)
      exact ⟨ρ', by rw [compL_t h1 h2 h5 (by omega), e]; simp [hp], hi⟩
end Qy
set_option Elab.async false
set_option linter.all false
set_option maxRecDepth 100000
set_option maxHeartbeats 400000
/-! repr of texts. -/
namespace Qy
open PySem L2
theorem reprChar_sok {q c : Nat} (hc : c < 1114112) : ∀ x ∈ Builtin.Str.reprChar q c, x < 1114112 := by
  have hex : ∀ (n : Nat), ∀ x ∈ List.replicate n 48 ++ (Nat.toDigits 16 c).map Char.toNat, x < 1114112 := by
    intro n x hx
    rcases List.mem_append.mp hx with h | h
    · rw [(List.mem_replicate.mp h).2]; decide
    · obtain ⟨d, _, rfl⟩ := List.mem_map.mp h
      exact char_lt d
  intro x hx
  unfold Builtin.Str.reprChar at hx
  dsimp only at hx
  split at hx
  · simp only [List.mem_cons, List.not_mem_nil, or_false] at hx; rcases hx with rfl | rfl <;> omega
  · split at hx
    · simp only [List.mem_cons, List.not_mem_nil, or_false] at hx; rcases hx with rfl | rfl <;> omega
    · split at hx
      · simp only [List.mem_cons, List.not_mem_nil, or_false] at hx; rcases hx with rfl | rfl <;> omega
      · split at hx
        · simp only [List.mem_cons, List.not_mem_nil, or_false] at hx; rcases hx with rfl | rfl <;> omega
        · split at hx
          · simp only [List.mem_cons, List.not_mem_nil, or_false] at hx; omega
          · split at hx
            · rcases List.mem_append.mp hx with h | h
              · simp only [List.mem_cons, List.not_mem_nil, or_false] at h; rcases h with rfl | rfl <;> omega
              · exact hex _ x h
            · split at hx
              · rcases List.mem_append.mp hx with h | h
                · simp only [List.mem_cons, List.not_mem_nil, or_false] at h; rcases h with rfl | rfl <;> omega
                · exact hex _ x h
              · rcases List.mem_append.mp hx with h | h
                · simp only [List.mem_cons, List.not_mem_nil, or_false] at h; rcases h with rfl | rfl <;> omega
                · exact hex _ x h
theorem reprText_sok {x : Str} (h : Sok x) : Sok (reprText x) := by
  have hq : reprQuote x < 1114112 := by
    unfold reprQuote
    split <;> decide
  have key : ∀ (l : List Nat) (acc : Array Nat), (∀ c ∈ l, c < 1114112) → (∀ c ∈ acc.toList, c < 1114112) → ∀ c ∈ (l.foldl (fun out c => out ++ (Builtin.Str.reprChar (reprQuote x) c).toArray) acc).toList, c < 1114112 := by
    intro l
    induction l with
    | nil => exact fun acc _ ha => ha
    | cons a r ih =>
      intro acc hl ha
      rw [List.foldl_cons]
      refine ih _ (fun c hc => hl c (List.mem_cons_of_mem _ hc)) fun c hc => ?_
      rw [Array.toList_append] at hc
      rcases List.mem_append.mp hc with z | z
      · exact ha c z
      · exact reprChar_sok (hl a List.mem_cons_self) c (by simpa using z)
  intro c hc
  unfold reprText at hc
  simp only at hc
  rw [Array.toList_push] at hc
  rcases List.mem_append.mp hc with z | z
  · rw [← Array.foldl_toList] at z
    exact key x.cps.toList #[reprQuote x] h (by intro d hd; have : d = reprQuote x := by simpa using hd
                                                subst this; exact hq) c z
  · have : c = reprQuote x := by simpa using z
    rw [this]; exact hq
theorem rep_str {x : Str} {k : Nat} (h : Sok x) (hl : x.length ≤ k) : Rep k 0 (.str x) := by
  refine ⟨rfl, rfl, Nat.zero_le _, ?_, hl, ?_⟩
  · show (x.cps.toList.all fun c => decide (c < 16 ^ 8)) = true
    rw [List.all_eq_true]
    intro c hc
    have := h c hc
    simp only [decide_eq_true_eq]
    exact Nat.lt_trans this (by decide)
  · rw [PyData.shown_str]
    exact reprText_sok h
end Qy
set_option Elab.async false
set_option linter.all false
set_option maxRecDepth 100000
set_option maxHeartbeats 400000
/-! Comprehensions and loops over any data: one step, told as one outcome. -/
namespace Qy
open PySem L2
/-- one turn of a comprehension: what it adds, and the slots behind it -/
def stepC (own : List Nat) (tg : Fg) (tt : Ft) (te : Fe) (d : D) (ρ : Rho) : Option (Option OD × Rho) := match tg (.st d) ρ with
  | none => none
  | some ρ1 => match tt ρ1 with
    | none => none
    | some (false, ρ2) => some (none, wipeR ρ2 own)
    | some (true, ρ2) => match te ρ2 with
      | none => none
      | some (o, ρ3) => some (some o, wipeR ρ3 own)
theorem compL_step {own : List Nat} {tg : Fg} {tt : Ft} {te : Fe} {d : D} {ds : List D} {ρ ρ' : Rho} {acc : List OD} {r : Option OD} (h : stepC own tg tt te d ρ = some (r, ρ')) (h4 : acc.length ≤ big) :
    compL own tg tt te (d :: ds) ρ acc = compL own tg tt te ds ρ' (acc ++ r.toList) := by
  unfold stepC at h
  rw [compL]
  cases h1 : tg (.st d) ρ with
  | none => rw [h1] at h; cases h
  | some ρ1 =>
    rw [h1] at h
    simp only at h ⊢
    cases h2 : tt ρ1 with
    | none => rw [h2] at h; cases h
    | some p =>
      obtain ⟨b, ρ2⟩ := p
      rw [h2] at h
      cases b with
      | false =>
        simp only at h ⊢
        cases h
        simp
      | true =>
        simp only at h ⊢
        cases h3 : te ρ2 with
        | none => rw [h3] at h; cases h
        | some p =>
          obtain ⟨o, ρ3⟩ := p
          rw [h3] at h
          simp only at h ⊢
          cases h
          rw [if_pos h4]
          rfl
theorem compS {α : Type} {enc : α → D} {own : List Nat} {tg : Fg} {tt : Ft} {te : Fe} {ρ0 : Rho} {r : α → Option OD} : ∀ {as : List α} {acc : List OD},
    (∀ a ∈ as, stepC own tg tt te (enc a) ρ0 = some (r a, ρ0)) → acc.length + as.length ≤ big →
    compL own tg tt te (as.map enc) ρ0 acc = some (acc ++ as.filterMap r, ρ0)
  | [], acc, _, _ => by simp [compL]
  | a :: as, acc, h, hb => by
    rw [List.map_cons, compL_step (h a List.mem_cons_self) (by simp at hb; omega), compS (fun x hx => h x (List.mem_cons_of_mem _ hx)) (by
      simp only [List.length_cons] at hb
      rw [List.length_append]
      have : (r a).toList.length ≤ 1 := by cases r a <;> simp
      omega)]
    cases hr : r a with
    | none => simp [hr]
    | some o => simp [hr]
/-- the first turn may bring the slots to rest -/
theorem compS1 {α : Type} {enc : α → D} {own : List Nat} {tg : Fg} {tt : Ft} {te : Fe} {ρ ρ0 : Rho} {r : α → Option OD} {as : List α} (hne : as ≠ [])
    (h1 : ∀ a ∈ as, stepC own tg tt te (enc a) ρ = some (r a, ρ0)) (h : ∀ a ∈ as, stepC own tg tt te (enc a) ρ0 = some (r a, ρ0)) (hb : as.length ≤ big) :
    compL own tg tt te (as.map enc) ρ [] = some (as.filterMap r, ρ0) := by
  cases as with
  | nil => exact absurd rfl hne
  | cons a as =>
    rw [List.map_cons, compL_step (h1 a List.mem_cons_self) (Nat.zero_le _), compS (fun x hx => h x (List.mem_cons_of_mem _ hx)) (by
      simp only [List.length_cons] at hb
      have : (r a).toList.length ≤ 1 := by cases r a <;> simp
      simp
      omega)]
    cases hr : r a with
    | none => simp [hr]
    | some o => simp [hr]
theorem filterMap_some {α β : Type} (f : α → β) (as : List α) : as.filterMap (fun a => some (f a)) = as.map f := by
  induction as with
  | nil => rfl
  | cons a r ih => simp [ih]
theorem filterMap_if {α β : Type} (p : α → Bool) (f : α → β) (as : List α) : as.filterMap (fun a => if p a = true then some (f a) else none) = (as.filter p).map f := by
  induction as with
  | nil => rfl
  | cons a r ih =>
    cases h : p a with
    | true => simp [h, ih]
    | false => simp [h, ih]
/-- one turn of a loop -/
def stepF (tg : Fg) (body : Fs) (d : D) (ρ : Rho) : Option Out := match tg (.st d) ρ with
  | none => none
  | some ρ1 => body ρ1
theorem loopF_nx {tg : Fg} {body : Fs} {d : D} {ds : List D} {ρ ρ' : Rho} (h : stepF tg body d ρ = some (.nx ρ')) : loopF tg body (d :: ds) ρ = loopF tg body ds ρ' := by
  unfold stepF at h
  rw [loopF]
  cases h1 : tg (.st d) ρ with
  | none => rw [h1] at h; cases h
  | some ρ1 =>
    rw [h1] at h
    simp only at h ⊢
    rw [h]
theorem loopF_rt {tg : Fg} {body : Fs} {d : D} {ds : List D} {ρ ρ' : Rho} {o : OD} (h : stepF tg body d ρ = some (.rt o ρ')) : loopF tg body (d :: ds) ρ = some (.rt o ρ') := by
  unfold stepF at h
  rw [loopF]
  cases h1 : tg (.st d) ρ with
  | none => rw [h1] at h; cases h
  | some ρ1 =>
    rw [h1] at h
    simp only at h ⊢
    rw [h]
/-- a loop over any data, by a state of any kind -/
theorem loopS {α β : Type} {enc : α → D} {tg : Fg} {body : Fs} {E : β → Rho} {s : β → α → β} (I : β → Prop) : ∀ {as : List α} {b : β}, I b →
    (∀ b, ∀ a ∈ as, I b → stepF tg body (enc a) (E b) = some (.nx (E (s b a))) ∧ I (s b a)) → loopF tg body (as.map enc) (E b) = some (.nx (E (as.foldl s b))) ∧ I (as.foldl s b)
  | [], b, hI, _ => ⟨rfl, hI⟩
  | a :: as, b, hI, h => by
    obtain ⟨h1, h2⟩ := h b a List.mem_cons_self hI
    rw [List.map_cons, loopF_nx h1, List.foldl_cons]
    exact loopS I h2 fun b x hx hb => h b x (List.mem_cons_of_mem _ hx) hb
/-- a loop over any data, by a relation that tells which are gone through -/
theorem loopR {α : Type} {enc : α → D} {tg : Fg} {body : Fs} (I : List α → Rho → Prop) : ∀ {done as : List α} {ρ : Rho}, I done ρ →
    (∀ done a ρ, a ∈ as → I done ρ → ∃ ρ', stepF tg body (enc a) ρ = some (.nx ρ') ∧ I (done ++ [a]) ρ') → ∃ ρ', loopF tg body (as.map enc) ρ = some (.nx ρ') ∧ I (done ++ as) ρ'
  | done, [], ρ, hI, _ => ⟨ρ, rfl, by simpa using hI⟩
  | done, a :: as, ρ, hI, h => by
    obtain ⟨ρ1, h1, h2⟩ := h done a ρ List.mem_cons_self hI
    rw [List.map_cons, loopF_nx h1]
    obtain ⟨ρ', h3, h4⟩ := loopR I (done := done ++ [a]) h2 fun dn x ρ hx hi => h dn x ρ (List.mem_cons_of_mem _ hx) hi
    exact ⟨ρ', h3, by simpa using h4⟩
/-- the same, and each turn knows what is still ahead -/
theorem loopP {α : Type} {enc : α → D} {tg : Fg} {body : Fs} {all : List α} (I : List α → Rho → Prop) : ∀ {done as : List α} {ρ : Rho}, all = done ++ as → I done ρ →
    (∀ done a rest ρ, all = done ++ a :: rest → I done ρ → ∃ ρ', stepF tg body (enc a) ρ = some (.nx ρ') ∧ I (done ++ [a]) ρ') → ∃ ρ', loopF tg body (as.map enc) ρ = some (.nx ρ') ∧ I all ρ'
  | done, [], ρ, he, hI, _ => ⟨ρ, rfl, by rw [he, List.append_nil]; exact hI⟩
  | done, a :: as, ρ, he, hI, h => by
    obtain ⟨ρ1, h1, h2⟩ := h done a as ρ he hI
    rw [List.map_cons, loopF_nx h1]
    exact loopP I (done := done ++ [a]) (by rw [he]; simp) h2 h
end Qy
set_option Elab.async false
set_option linter.all false
set_option maxRecDepth 100000
set_option maxHeartbeats 1000000
namespace Lw
open PySem PySem.Spec PyProof.Rows L2 Qy ClX
def top (i : Nat) : Stmt := PySem.Challenge.pw_walksback_k16_whole_places_come_to_forth.main.body.getD i (.Pass ⟨0, 0, 0, 0⟩)
abbrev s_law_draw : Stmt := top 41
abbrev s_law_pick : Stmt := top 42
abbrev s_law_piece : Stmt := top 44
abbrev s_law_word : Stmt := top 43
abbrev s_law_words : Stmt := top 45
abbrev s_is_list : Stmt := top 16
abbrev s_sorted_words : Stmt := top 20
abbrev s_is_word : Stmt := top 17
abbrev s_is_kept_word : Stmt := top 36
abbrev s_Lot_init : Stmt := clsAt (top 38) 2
abbrev s_Lot_eq : Stmt := clsAt (top 38) 17
abbrev s_is_question : Stmt := top 18
abbrev s_want_question : Stmt := top 19
abbrev s_is_integer : Stmt := top 14
abbrev s_is_count : Stmt := top 15
abbrev s_is_place : Stmt := top 23
abbrev s_want_place : Stmt := top 24
abbrev s_spread : Stmt := top 28
abbrev s_stands_at : Stmt := top 22
abbrev s_bridges_by : Stmt := top 25
abbrev s_bridges_of : Stmt := top 26
abbrev s_forth_of : Stmt := top 32
abbrev s_forth_from : Stmt := top 33
abbrev s_forth_to : Stmt := top 34
abbrev s_law_further_right : Stmt := top 50
abbrev s_class_by : Stmt := top 29
abbrev s_class_of : Stmt := top 30
abbrev s_joined_to : Stmt := top 31
abbrev s_bridges_at : Stmt := top 27
abbrev s_law_splits : Stmt := top 46
abbrev s_law_goals : Stmt := top 47
abbrev s_law_starts : Stmt := top 48
abbrev s_law_place_right : Stmt := top 49
abbrev s_law_right : Stmt := top 51
abbrev s_law_pot : Stmt := top 40
abbrev s_law : Stmt := top 52
structure Env (K : PySem.W.Frag) (mg : Str → Option Value) : Prop where
  n_abs : mg "abs" = none
  n_all : mg "all" = none
  n_any : mg "any" = none
  n_bool : mg "bool" = none
  n_divmod : mg "divmod" = none
  n_enumerate : mg "enumerate" = none
  n_int : mg "int" = none
  n_isinstance : mg "isinstance" = none
  n_len : mg "len" = none
  n_list : mg "list" = none
  n_max : mg "max" = none
  n_min : mg "min" = none
  n_range : mg "range" = none
  n_set : mg "set" = none
  n_sorted : mg "sorted" = none
  n_str : mg "str" = none
  n_tuple : mg "tuple" = none
  c_MOST_ASKED : ∃ t, mg "MOST_ASKED" = some (.int 24 t)
  c_SMALL : ∃ t, mg "SMALL" = some (.str "abcdefghijklmnopqrstuvwxyz" t)
  cls_Lot : Cls K (He.ga K "Lot")
  cr_Lot : CRead K (He.ga K "Lot") (.type "type")
  cv_Lot_MOST_LETTERS : ∃ u, CVal K (He.ga K "Lot") (.type "type") "MOST_LETTERS" (.int 12) u
  cv_Lot_MOST_WORDS : ∃ u, CVal K (He.ga K "Lot") (.type "type") "MOST_WORDS" (.int 10) u
  isi_Lot : C8.InsC K (He.ga K "Lot")
  mk_Lot : MkE K mg "Lot"
  na_Lot_own_words : NoAttr K (He.ga K "Lot") "own_words"
section
variable {P : Program} {w : World} {K : PySem.W.Frag} {mg : Str → Option Value} {base : Heap}
abbrev N_law_draw : List Str := ["_law_pot_here", "_law_many", "_law_digit"]
theorem sc_law_draw : FnScope N_law_draw ["_law_pot_here", "_law_many"] (defScope s_law_draw) := ⟨rfl, rfl, rfl, by decide +kernel, rfl, by decide +kernel, by decide +kernel⟩
theorem bd_law_draw : BindT "_law_draw" s_law_draw ["_law_pot_here", "_law_many"] := fun _ _ _ _ _ _ us hl => match us, hl with | [_, _], _ => rfl
noncomputable def F_law_draw : Fs := (fSeq (fIfS (fB (fBin gGt (fE (fBin gIx (fP 0) (fE (fC (.int 0))))) (fE (fC (.int 0))))) (fSeq (fAsg (fBin gDivmod (fE (fBin gIx (fP 0) (fE (fC (.int 0))))) (fP 1)) (gT 2 (gsCons (gSetI 0 (fC (.int 0))) (gsCons (gN 2) gsNil)))) (fRet (fMov 2))) fNext) (fSeq (fAsg (fBin gMod (fE (fUn gInt (fE (fBin gAdd (fE (fBin gMul (fE (fBin gIx (fP 0) (fE (fC (.int 1))))) (fE (fC (.int 48271))))) (fE (fC (.int 8142))))))) (fE (fC (.int 2147483629)))) (gSetI 0 (fC (.int 1)))) (fRet (fBin gMod (fE (fUn gInt (fE (fBin gDiv (fE (fBin gMod (fE (fUn gInt (fE (fBin gMul (fE (fBin gIx (fP 0) (fE (fC (.int 1))))) (fE (fBin gIx (fP 0) (fE (fC (.int 1))))))))) (fE (fC (.int 2147483549))))) (fE (fC (.int 13))))))) (fP 1)))))
noncomputable def m_law_draw : Mir := runM [true, false] N_law_draw F_law_draw
theorem ok_law_draw {f : Addr} {fd : FuncData} (E : Env K mg) (hm : mg "_law_draw" = some (.ref f)) (F : FunD K "_law_draw" "_law_draw" (defArgs s_law_draw) (defBody s_law_draw) (defScope s_law_draw) [] [] f fd) : Cal P w K mg base "_law_draw" s_law_draw 1 ["_law_pot_here", "_law_many"] m_law_draw :=
  ⟨f, fd, hm, F, mk_run (k := 0) F sc_law_draw [true, false] F_law_draw fun cdv A outer s H EE pin gd hr hp => ⟨_, (sb_cons (ss_if (st_cmp op_gt rg_gt (SE.o (se_ix (K := K) (so_var 0) (SE.o (se_int)))) (SE.o (se_int)) (nomark _)) (sb_cons (ss_asg (se_b2 call_divmod rg_divmod E.n_divmod (by decide +kernel) (SE.o (se_ix (K := K) (so_var 0) (SE.o (se_int)))) (so_var 1)) (sg_tup (K := K) rfl (sgs_cons (sg_set (i := 0) (se_int)) (sgs_cons (sg_name sc_law_draw.nd (hp 2 (by decide))) sgs_nil)))) (sb_one (ss_ret (se_mov 2)))) sb_nil) (sb_cons (ss_asg (so_op op_mod rg_mod (SE.o (se_t1 call_int1 rg_int E.n_int (by decide +kernel) (SE.o (so_op op_addQ rg_addQ (SE.o (so_op op_mul rg_mul (SE.o (se_ix (K := K) (so_var 0) (SE.o (se_int)))) (SE.o (se_int)))) (SE.o (se_int)))))) (SE.o (se_int))) (sg_set (i := 0) (se_int))) (sb_one (ss_ret (so_op op_mod rg_mod (SE.o (se_t1 call_int1 rg_int E.n_int (by decide +kernel) (SE.o (so_op op_fdiv rg_div (SE.o (so_op op_mod rg_mod (SE.o (se_t1 call_int1 rg_int E.n_int (by decide +kernel) (SE.o (so_op op_mul rg_mul (SE.o (se_ix (K := K) (so_var 0) (SE.o (se_int)))) (SE.o (se_ix (K := K) (so_var 0) (SE.o (se_int)))))))) (SE.o (se_int)))) (SE.o (se_int)))))) (so_var 1))))))⟩⟩
abbrev N_law_pick : List Str := ["_law_pot_here", "_law_some"]
theorem sc_law_pick : FnScope N_law_pick ["_law_pot_here", "_law_some"] (defScope s_law_pick) := ⟨rfl, rfl, rfl, by decide +kernel, rfl, by decide +kernel, by decide +kernel⟩
theorem bd_law_pick : BindT "_law_pick" s_law_pick ["_law_pot_here", "_law_some"] := fun _ _ _ _ _ _ us hl => match us, hl with | [_, _], _ => rfl
noncomputable def F_law_pick : Fs := (fRet (fBin gIx (fE (fFz (fP 1))) (fE (fCall m_law_draw (fLend 0 (fCons (fUn gLen (fP 1)) fNil)) [some 0, none]))))
noncomputable def m_law_pick : Mir := runM [true, false] N_law_pick F_law_pick
theorem ok_law_pick {f : Addr} {fd : FuncData} (E : Env K mg) (c_law_draw : Cal P w K mg base "_law_draw" s_law_draw 1 ["_law_pot_here", "_law_many"] m_law_draw) (hm : mg "_law_pick" = some (.ref f)) (F : FunD K "_law_pick" "_law_pick" (defArgs s_law_pick) (defBody s_law_pick) (defScope s_law_pick) [] [] f fd) : Cal P w K mg base "_law_pick" s_law_pick 2 ["_law_pot_here", "_law_some"] m_law_pick :=
  ⟨f, fd, hm, F, mk_run (k := 1) F sc_law_pick [true, false] F_law_pick fun cdv A outer s H EE pin gd hr hp => ⟨_, (sb_one (ss_ret (se_ix (K := K) (SE.o (SO.fz (so_var 1))) (SE.o (se_call (K := K) c_law_draw gd (hr.mono (by decide)) bd_law_draw (sb0_lend 0 (sb0_cons (se_b1 (r := rLenQ K) call_lenQ rg_len E.n_len PySem.boot_len (so_var 1)) sb0_nil)) (len_lend (len_cons len_nil)))))))⟩⟩
abbrev N_law_piece : List Str := ["_law_pot_here", "_law_question", "_law_most", "_law_begin"]
theorem sc_law_piece : FnScope N_law_piece ["_law_pot_here", "_law_question", "_law_most"] (defScope s_law_piece) := ⟨rfl, rfl, rfl, by decide +kernel, rfl, by decide +kernel, by decide +kernel⟩
theorem bd_law_piece : BindT "_law_piece" s_law_piece ["_law_pot_here", "_law_question", "_law_most"] := fun _ _ _ _ _ _ us hl => match us, hl with | [_, _, _], _ => rfl
noncomputable def F_law_piece : Fs := (fSeq (fAsg (fCall m_law_draw (fLend 0 (fCons (fUn gLen (fP 1)) fNil)) [some 0, none]) (gN 3)) (fRet (fSl (fP 1) (fPart (fFz (fP 3))) (fPart (fBin gAdd (fE (fBin gAdd (fP 3) (fE (fC (.int 1))))) (fE (fCall m_law_draw (fLend 0 (fCons (fFz (fP 2)) fNil)) [some 0, none])))))))
noncomputable def m_law_piece : Mir := runM [true, false, false] N_law_piece F_law_piece
theorem ok_law_piece {f : Addr} {fd : FuncData} (E : Env K mg) (c_law_draw : Cal P w K mg base "_law_draw" s_law_draw 1 ["_law_pot_here", "_law_many"] m_law_draw) (hm : mg "_law_piece" = some (.ref f)) (F : FunD K "_law_piece" "_law_piece" (defArgs s_law_piece) (defBody s_law_piece) (defScope s_law_piece) [] [] f fd) : Cal P w K mg base "_law_piece" s_law_piece 2 ["_law_pot_here", "_law_question", "_law_most"] m_law_piece :=
  ⟨f, fd, hm, F, mk_run (k := 1) F sc_law_piece [true, false, false] F_law_piece fun cdv A outer s H EE pin gd hr hp => ⟨_, (sb_cons (ss_set sc_law_piece.nd (hp 3 (by decide)) (se_call (K := K) c_law_draw gd (hr.mono (by decide)) bd_law_draw (sb0_lend 0 (sb0_cons (se_b1 (r := rLenQ K) call_lenQ rg_len E.n_len PySem.boot_len (so_var 1)) sb0_nil)) (len_lend (len_cons len_nil)))) (sb_one (ss_ret (se_sl (K := K) (so_var 1) (sp_some (SO.fz (so_var 3))) (sp_some (so_op op_addQ rg_addQ (SE.o (so_op op_addQ rg_addQ (so_var 3) (SE.o (se_int)))) (SE.o (se_call (K := K) c_law_draw gd (hr.mono (by decide)) bd_law_draw (sb0_lend 0 (sb0_cons (SO.fz (so_var 2)) sb0_nil)) (len_lend (len_cons len_nil))))))))))⟩⟩
abbrev N_law_word : List Str := ["_law_pot_here", "_law_letters", "_law_most", "_law_turn"]
theorem sc_law_word : FnScope N_law_word ["_law_pot_here", "_law_letters", "_law_most"] (defScope s_law_word) := ⟨rfl, rfl, rfl, by decide +kernel, rfl, by decide +kernel, by decide +kernel⟩
theorem bd_law_word : BindT "_law_word" s_law_word ["_law_pot_here", "_law_letters", "_law_most"] := fun _ _ _ _ _ _ us hl => match us, hl with | [_, _, _], _ => rfl
noncomputable def F_law_word : Fs := (fRet (fBin gJoin (fE (fC (.str ""))) (fE (fLc [3] (fItR1 (fCons (fBin gAdd (fE (fC (.int 1))) (fE (fCall m_law_draw (fLend 0 (fCons (fFz (fP 2)) fNil)) [some 0, none]))) fNil)) (gN 3) fYes (fFz (fE (fCall m_law_pick (fLend 0 (fCons (fFz (fP 1)) fNil)) [some 0, none])))))))
noncomputable def m_law_word : Mir := runM [true, false, false] N_law_word F_law_word
theorem ok_law_word {f : Addr} {fd : FuncData} (E : Env K mg) (c_law_draw : Cal P w K mg base "_law_draw" s_law_draw 1 ["_law_pot_here", "_law_many"] m_law_draw) (c_law_pick : Cal P w K mg base "_law_pick" s_law_pick 2 ["_law_pot_here", "_law_some"] m_law_pick) (hm : mg "_law_word" = some (.ref f)) (F : FunD K "_law_word" "_law_word" (defArgs s_law_word) (defBody s_law_word) (defScope s_law_word) [] [] f fd) : Cal P w K mg base "_law_word" s_law_word 3 ["_law_pot_here", "_law_letters", "_law_most"] m_law_word :=
  ⟨f, fd, hm, F, mk_run (k := 2) F sc_law_word [true, false, false] F_law_word fun cdv A outer s H EE pin gd hr hp => ⟨_, (sb_one (ss_ret (se_join (K := K) (SE.o (se_str)) (SE.o (se_lc (own := [("_law_turn", 3)]) rfl sc_law_word.nd (si_rng1 E.n_range (sa_cons (so_op op_addQ rg_addQ (SE.o (se_int)) (SE.o (se_call (K := K) c_law_draw gd (hr.mono (by decide)) bd_law_draw (sb0_lend 0 (sb0_cons (SO.fz (so_var 2)) sb0_nil)) (len_lend (len_cons len_nil))))) sa_nil)) (blkOk_by (N := N_law_word) (sc := defScope s_law_word) (own := [("_law_turn", 3)]) (by decide +kernel)) (fun i hi => hp i (by revert i; decide)) (by decide) (fun _ _ _ _ _ => (sg_name sc_law_word.nd (hp 3 (by decide)))) (fun _ _ _ _ _ => stl_nil) (fun _ _ _ _ _ => SO.fz (SE.o (se_call (K := K) c_law_pick gd (hr.mono (by decide)) bd_law_pick (sb0_lend 0 (sb0_cons (SO.fz (so_var 1)) sb0_nil)) (len_lend (len_cons len_nil))))))))))⟩⟩
abbrev N_law_words : List Str := ["_law_pot_here", "_law_question", "_law_many", "_law_most", "_law_found", "_law_turn", "_law_word_here"]
theorem sc_law_words : FnScope N_law_words ["_law_pot_here", "_law_question", "_law_many", "_law_most"] (defScope s_law_words) := ⟨rfl, rfl, rfl, by decide +kernel, rfl, by decide +kernel, by decide +kernel⟩
theorem bd_law_words : BindT "_law_words" s_law_words ["_law_pot_here", "_law_question", "_law_many", "_law_most"] := fun _ _ _ _ _ _ us hl => match us, hl with | [_, _, _, _], _ => rfl
noncomputable def F_law_words : Fs := (fSeq (fAsg (fLst fNil) (gN 4)) (fSeq (fFor (fItR1 (fCons (fCall m_law_draw (fLend 0 (fCons (fFz (fE (fBin gAdd (fP 2) (fE (fC (.int 1)))))) fNil)) [some 0, none]) fNil)) (gN 5) (fSeq (fAsg (fCall m_law_piece (fLend 0 (fCons (fFz (fP 1)) (fCons (fFz (fP 3)) fNil))) [some 0, none, none]) (gN 6)) (fSeq (fIfS (fB (fBin gEq (fE (fCall m_law_draw (fLend 0 (fCons (fC (.int 6)) fNil)) [some 0, none])) (fE (fC (.int 0))))) (fAsg (fCall m_law_word (fLend 0 (fCons (fC (.str "abc")) (fCons (fC (.int 3)) fNil))) [some 0, none, none]) (gN 6)) fNext) (fIfS (fB (fBin gNotInQ (fP 6) (fP 4))) (fX (fAppend 4 (fFz (fP 6)))) fNext)))) (fRet (fMov 4))))
noncomputable def m_law_words : Mir := runM [true, false, false, false] N_law_words F_law_words
theorem ok_law_words {f : Addr} {fd : FuncData} (E : Env K mg) (c_law_draw : Cal P w K mg base "_law_draw" s_law_draw 1 ["_law_pot_here", "_law_many"] m_law_draw) (c_law_word : Cal P w K mg base "_law_word" s_law_word 3 ["_law_pot_here", "_law_letters", "_law_most"] m_law_word) (c_law_piece : Cal P w K mg base "_law_piece" s_law_piece 2 ["_law_pot_here", "_law_question", "_law_most"] m_law_piece) (hm : mg "_law_words" = some (.ref f)) (F : FunD K "_law_words" "_law_words" (defArgs s_law_words) (defBody s_law_words) (defScope s_law_words) [] [] f fd) : Cal P w K mg base "_law_words" s_law_words 4 ["_law_pot_here", "_law_question", "_law_many", "_law_most"] m_law_words :=
  ⟨f, fd, hm, F, mk_run (k := 3) F sc_law_words [true, false, false, false] F_law_words fun cdv A outer s H EE pin gd hr hp => ⟨_, (sb_cons (ss_set sc_law_words.nd (hp 4 (by decide)) (se_list sa_nil)) (sb_cons (ss_for PassesOwn.never rfl (si_rng1 E.n_range (sa_cons (se_call (K := K) c_law_draw gd (hr.mono (by decide)) bd_law_draw (sb0_lend 0 (sb0_cons (SO.fz (SE.o (so_op op_addQ rg_addQ (so_var 2) (SE.o (se_int))))) sb0_nil)) (len_lend (len_cons len_nil))) sa_nil)) (sg_name sc_law_words.nd (hp 5 (by decide))) (sb_cons (ss_set sc_law_words.nd (hp 6 (by decide)) (se_call (K := K) c_law_piece gd (hr.mono (by decide)) bd_law_piece (sb0_lend 0 (sb0_cons (SO.fz (so_var 1)) (sb0_cons (SO.fz (so_var 3)) sb0_nil))) (len_lend (len_cons (len_cons len_nil))))) (sb_cons (ss_if (st_cmp (r := rEqD K) (op_eqD (u64 hr)) rg_eq (SE.o (se_call (K := K) c_law_draw gd (hr.mono (by decide)) bd_law_draw (sb0_lend 0 (sb0_cons (se_int) sb0_nil)) (len_lend (len_cons len_nil)))) (SE.o (se_int)) (nomark _)) (sb_one (ss_set sc_law_words.nd (hp 6 (by decide)) (se_call (K := K) c_law_word gd (hr.mono (by decide)) bd_law_word (sb0_lend 0 (sb0_cons (se_str) (sb0_cons (se_int) sb0_nil))) (len_lend (len_cons (len_cons len_nil)))))) sb_nil) (sb_one (ss_if (st_cmp (r := rNotInQ K) (op_notInQ (u65 hr)) rg_notInQ (so_var 6) (so_var 4) (by rfl)) (sb_one (ss_expr (se_append (i := 4) (SO.fz (so_var 6))))) sb_nil))))) (sb_one (ss_ret (se_mov 4)))))⟩⟩
abbrev N_is_list : List Str := ["value"]
theorem sc_is_list : FnScope N_is_list ["value"] (defScope s_is_list) := ⟨rfl, rfl, rfl, by decide +kernel, rfl, by decide +kernel, by decide +kernel⟩
theorem bd_is_list : BindT "is_list" s_is_list ["value"] := fun _ _ _ _ _ _ us hl => match us, hl with | [_], _ => rfl
noncomputable def F_is_list : Fs := (fRet (fBin gIsi2K (fP 0) (fE (fTup (fCons (fC (.raw (.ty "list"))) (fCons (fC (.raw (.ty "tuple"))) fNil))))))
noncomputable def m_is_list : Mir := runM [false] N_is_list F_is_list
theorem ok_is_list {f : Addr} {fd : FuncData} (E : Env K mg) (hm : mg "is_list" = some (.ref f)) (F : FunD K "is_list" "is_list" (defArgs s_is_list) (defBody s_is_list) (defScope s_is_list) [] [] f fd) : Cal P w K mg base "is_list" s_is_list 1 ["value"] m_is_list :=
  ⟨f, fd, hm, F, mk_run (k := 0) F sc_is_list [false] F_is_list fun cdv A outer s H EE pin gd hr hp => ⟨_, (sb_one (ss_ret (se_b2 (r := rIsiT K) call_isiT rg_isi2K E.n_isinstance (by decide +kernel) (so_var 0) (SE.o (se_tup (sa_cons (se_ty (n := "list") E.n_list (by decide +kernel)) (sa_cons (se_ty (n := "tuple") E.n_tuple (by decide +kernel)) sa_nil)))))))⟩⟩
abbrev N_sorted_words : List Str := ["words", "size", "word"]
theorem sc_sorted_words : FnScope N_sorted_words ["words"] (defScope s_sorted_words) := ⟨rfl, rfl, rfl, by decide +kernel, rfl, by decide +kernel, by decide +kernel⟩
theorem bd_sorted_words : BindT "sorted_words" s_sorted_words ["words"] := fun _ _ _ _ _ _ us hl => match us, hl with | [_], _ => rfl
noncomputable def F_sorted_words : Fs := (fRet (fLc [1, 2] (fItS (fFz (fE (fUn gSorted (fE (fLc [2] (fItS (fFz (fP 0))) (gN 2) fYes (fTup (fCons (fUn gLen (fP 2)) (fCons (fFz (fP 2)) fNil))))))))) (gT 2 (gsCons (gN 1) (gsCons (gN 2) gsNil))) fYes (fFz (fP 2))))
noncomputable def m_sorted_words : Mir := runM [false] N_sorted_words F_sorted_words
theorem ok_sorted_words {f : Addr} {fd : FuncData} (E : Env K mg) (hm : mg "sorted_words" = some (.ref f)) (F : FunD K "sorted_words" "sorted_words" (defArgs s_sorted_words) (defBody s_sorted_words) (defScope s_sorted_words) [] [] f fd) : Cal P w K mg base "sorted_words" s_sorted_words 1 ["words"] m_sorted_words :=
  ⟨f, fd, hm, F, mk_run (k := 0) F sc_sorted_words [false] F_sorted_words fun cdv A outer s H EE pin gd hr hp => ⟨_, (sb_one (ss_ret (se_lc (own := [("size", 1), ("word", 2)]) rfl sc_sorted_words.nd (si_seq (K := K) (SO.fz (SE.o (se_b1 (r := Qy.rSorted K) (cr_sortedQ (u67 hr)) rg_sorted E.n_sorted (by decide +kernel) (SE.o (se_lc (own := [("word", 2)]) rfl sc_sorted_words.nd (si_seq (K := K) (SO.fz (so_var 0))) (blkOk_by (N := N_sorted_words) (sc := defScope s_sorted_words) (own := [("word", 2)]) (by decide +kernel)) (fun i hi => hp i (by revert i; decide)) (by decide) (fun _ _ _ _ _ => (sg_name sc_sorted_words.nd (hp 2 (by decide)))) (fun _ _ _ _ _ => stl_nil) (fun _ _ _ _ _ => se_tup (sa_cons (se_b1 (r := rLenQ K) call_lenQ rg_len E.n_len PySem.boot_len (so_var 2)) (sa_cons (SO.fz (so_var 2)) sa_nil))))))))) (blkOk_by (N := N_sorted_words) (sc := defScope s_sorted_words) (own := [("size", 1), ("word", 2)]) (by decide +kernel)) (fun i hi => hp i (by revert i; decide)) (by decide) (fun _ _ _ _ _ => (sg_tup (K := K) rfl (sgs_cons (sg_name sc_sorted_words.nd (hp 1 (by decide))) (sgs_cons (sg_name sc_sorted_words.nd (hp 2 (by decide))) sgs_nil)))) (fun _ _ _ _ _ => stl_nil) (fun _ _ _ _ _ => SO.fz (so_var 2)))))⟩⟩
abbrev N_is_word : List Str := ["value", "sign"]
theorem sc_is_word : FnScope N_is_word ["value"] (defScope s_is_word) := ⟨rfl, rfl, rfl, by decide +kernel, rfl, by decide +kernel, by decide +kernel⟩
theorem bd_is_word : BindT "is_word" s_is_word ["value"] := fun _ _ _ _ _ _ us hl => match us, hl with | [_], _ => rfl
noncomputable def F_is_word : Fs := (fRet (fAndV (fBin gIsi (fP 0) (fE (fC (.raw (.ty "str"))))) (fAndV (fBin gNe (fP 0) (fE (fC (.str "")))) (fUn gAll (fE (fLc [1] (fItS (fFz (fP 0))) (gN 1) fYes (fBin gInQ (fP 1) (fE (fC (.str "abcdefghijklmnopqrstuvwxyz"))))))))))
noncomputable def m_is_word : Mir := runM [false] N_is_word F_is_word
theorem ok_is_word {f : Addr} {fd : FuncData} (E : Env K mg) (hm : mg "is_word" = some (.ref f)) (F : FunD K "is_word" "is_word" (defArgs s_is_word) (defBody s_is_word) (defScope s_is_word) [] [] f fd) : Cal P w K mg base "is_word" s_is_word 1 ["value"] m_is_word :=
  ⟨f, fd, hm, F, mk_run (k := 0) F sc_is_word [false] F_is_word fun cdv A outer s H EE pin gd hr hp => ⟨_, (sb_one (ss_ret (se_and (se_b2 (r := rIsi K) call_isi rg_isi E.n_isinstance (by decide +kernel) (so_var 0) (SE.o (se_ty (n := "str") E.n_str (by decide +kernel)))) (se_and (so_cmp (r := rNeD K) (op_neD (u64 hr)) rg_ne (so_var 0) (SE.o (se_str)) (nomark _)) (se_one (se_b1 (r := rAll K) (cr_all rfl) rg_all E.n_all (by decide +kernel) (SE.o (se_lc (own := [("sign", 1)]) rfl sc_is_word.nd (si_seq (K := K) (SO.fz (so_var 0))) (blkOk_by (N := N_is_word) (sc := defScope s_is_word) (own := [("sign", 1)]) (by decide +kernel)) (fun i hi => hp i (by revert i; decide)) (by decide) (fun _ _ _ _ _ => (sg_name sc_is_word.nd (hp 1 (by decide)))) (fun _ _ _ _ _ => stl_nil) (fun _ _ _ _ _ => so_cmp (r := rInQ K) (op_inQ (u65 hr)) rg_inQ (so_var 1) (SE.o (se_gstr E.c_SMALL)) (by rfl))))))))))⟩⟩
abbrev N_is_kept_word : List Str := ["value"]
theorem sc_is_kept_word : FnScope N_is_kept_word ["value"] (defScope s_is_kept_word) := ⟨rfl, rfl, rfl, by decide +kernel, rfl, by decide +kernel, by decide +kernel⟩
theorem bd_is_kept_word : BindT "is_kept_word" s_is_kept_word ["value"] := fun _ _ _ _ _ _ us hl => match us, hl with | [_], _ => rfl
noncomputable def F_is_kept_word : Fs := (fRet (fAndV (fCall m_is_word (fCons (fFz (fP 0)) fNil) [none]) (fBin gLe (fE (fUn gLen (fP 0))) (fE (fC (.int 12))))))
noncomputable def m_is_kept_word : Mir := runM [false] N_is_kept_word F_is_kept_word
theorem ok_is_kept_word {f : Addr} {fd : FuncData} (E : Env K mg) (c_is_word : Cal P w K mg base "is_word" s_is_word 1 ["value"] m_is_word) (hm : mg "is_kept_word" = some (.ref f)) (F : FunD K "is_kept_word" "is_kept_word" (defArgs s_is_kept_word) (defBody s_is_kept_word) (defScope s_is_kept_word) [] [] f fd) : Cal P w K mg base "is_kept_word" s_is_kept_word 2 ["value"] m_is_kept_word :=
  ⟨f, fd, hm, F, mk_run (k := 1) F sc_is_kept_word [false] F_is_kept_word fun cdv A outer s H EE pin gd hr hp => ⟨_, (sb_one (ss_ret (se_and (se_call (K := K) c_is_word gd (hr.mono (by decide)) bd_is_word (sb0_cons (SO.fz (so_var 0)) sb0_nil) (len_cons len_nil)) (se_one (so_cmp op_le rg_le (SE.o (se_b1 (r := rLenQ K) call_lenQ rg_len E.n_len PySem.boot_len (so_var 0))) (SE.o (se_cint (cn := "Lot") (mc := .type "type") E.mk_Lot.mg E.cr_Lot E.cv_Lot_MOST_LETTERS)) (nomark _))))))⟩⟩
abbrev N_Lot_init : List Str := ["self", "words", "position", "word"]
theorem sc_Lot_init : FnScope N_Lot_init ["self", "words"] (defScope s_Lot_init) := ⟨rfl, rfl, rfl, by decide +kernel, rfl, by decide +kernel, by decide +kernel⟩
noncomputable def F_Lot_init : Fs := (fSeq (fIfS (fNot (fB (fCall m_is_list (fCons (fFz (fP 1)) fNil) [none]))) fStuck fNext) (fSeq (fFor (fItEQ (fCons (fFz (fP 1)) fNil)) (gT 2 (gsCons (gN 2) (gsCons (gN 3) gsNil))) (fIfS (fOr (fNot (fB (fCall m_is_kept_word (fCons (fFz (fP 3)) fNil) [none]))) (fB (fBin gInQ (fP 3) (fE (fSl (fP 1) fNoPart (fPart (fFz (fP 2)))))))) fStuck fNext)) (fSeq (fIfS (fB (fBin gGt (fE (fUn gLen (fP 1))) (fE (fC (.int 10))))) fStuck fNext) (fSetF 0 "Lot" "own_words" (fUn gTuple (fE (fCall m_sorted_words (fCons (fFz (fP 1)) fNil) [none])))))))
noncomputable def m_Lot_init : Mir := runM [true, false] N_Lot_init F_Lot_init
theorem fn_Lot_init {f : Addr} {fd : FuncData} {dvs : List V} (E : Env K mg) (c_sorted_words : Cal P w K mg base "sorted_words" s_sorted_words 1 ["words"] m_sorted_words) (c_is_kept_word : Cal P w K mg base "is_kept_word" s_is_kept_word 2 ["value"] m_is_kept_word) (c_is_list : Cal P w K mg base "is_list" s_is_list 1 ["value"] m_is_list) (F : FunD K "__init__" "Lot.__init__" (defArgs s_Lot_init) (defBody s_Lot_init) (defScope s_Lot_init) dvs [] f fd) : FnG P w K mg base CX0 3 f fd ["self", "words"] (spM K 2 m_Lot_init) :=
  mk_run (k := 2) F sc_Lot_init [true, false] F_Lot_init fun cdv A outer s H EE pin gd hr hp => ⟨_, (sb_cons (ss_if (st_not (st_val (se_call (K := K) c_is_list gd (hr.mono (by decide)) bd_is_list (sb0_cons (SO.fz (so_var 1)) sb0_nil) (len_cons len_nil)))) (sb_one (ss_never)) sb_nil) (sb_cons (ss_for PassesOwn.never rfl (si_enumQ (K := K) E.n_enumerate (sa_cons (SO.fz (so_var 1)) sa_nil)) (sg_tup (K := K) rfl (sgs_cons (sg_name sc_Lot_init.nd (hp 2 (by decide))) (sgs_cons (sg_name sc_Lot_init.nd (hp 3 (by decide))) sgs_nil))) (sb_one (ss_if (SW.st (sw_or (st_not (st_val (se_call (K := K) c_is_kept_word gd (hr.mono (by decide)) bd_is_kept_word (sb0_cons (SO.fz (so_var 3)) sb0_nil) (len_cons len_nil)))) (sw_or1 (st_cmp (r := rInQ K) (op_inQ (u65 hr)) rg_inQ (so_var 3) (SE.o (se_sl (K := K) (so_var 1) sp_none (sp_some (SO.fz (so_var 2))))) (by rfl))))) (sb_one (ss_never)) sb_nil))) (sb_cons (ss_if (st_cmp op_gt rg_gt (SE.o (se_b1 (r := rLenQ K) call_lenQ rg_len E.n_len PySem.boot_len (so_var 1))) (SE.o (se_cint (cn := "Lot") (mc := .type "type") E.mk_Lot.mg E.cr_Lot E.cv_Lot_MOST_WORDS)) (nomark _)) (sb_one (ss_never)) sb_nil) (sb_one (ss_fld (cn := "Lot") (i := 0) E.cls_Lot E.na_Lot_own_words (se_t1 (r := rTupleQ K) call_tupleQ rg_tuple E.n_tuple (by decide +kernel) (SE.o (se_call (K := K) c_sorted_words gd (hr.mono (by decide)) bd_sorted_words (sb0_cons (SO.fz (so_var 1)) sb0_nil) (len_cons len_nil)))))))))⟩
theorem ok_Lot_init {f : Addr} {fd : FuncData} {dvs : List V} (E : Env K mg) (c_sorted_words : Cal P w K mg base "sorted_words" s_sorted_words 1 ["words"] m_sorted_words) (c_is_kept_word : Cal P w K mg base "is_kept_word" s_is_kept_word 2 ["value"] m_is_kept_word) (c_is_list : Cal P w K mg base "is_list" s_is_list 1 ["value"] m_is_list) (h1 : PySem.W.findIn K (.ref (He.ga K "Lot")) "__init__" = some (some (.ref f))) (h2 : PySem.W.isFn K (.ref f) = true) (h3 : PySem.W.keepIn K (.ref f) = true) (hb : Binds K fd ["self", "words"] []) (F : FunD K "__init__" "Lot.__init__" (defArgs s_Lot_init) (defBody s_Lot_init) (defScope s_Lot_init) dvs [] f fd) : CalM P w K mg base "Lot" "__init__" 3 ["self", "words"] m_Lot_init :=
  ⟨f, fd, h1, h2, h3, hb, fn_Lot_init E c_sorted_words c_is_kept_word c_is_list F⟩
abbrev N_Lot_eq : List Str := ["self", "other"]
theorem sc_Lot_eq : FnScope N_Lot_eq ["self", "other"] (defScope s_Lot_eq) := ⟨rfl, rfl, rfl, by decide +kernel, rfl, by decide +kernel, by decide +kernel⟩
noncomputable def F_Lot_eq : Fs := (fRet (fAndV (fUn (gIsiC "Lot") (fP 1)) (fBin gEq (fE (fUn (gFld "Lot" "own_words") (fP 0))) (fE (fUn (gFld "Lot" "own_words") (fP 1))))))
noncomputable def m_Lot_eq : Mir := runM [false, false] N_Lot_eq F_Lot_eq
theorem fn_Lot_eq {f : Addr} {fd : FuncData} {dvs : List V} (E : Env K mg) (F : FunD K "__eq__" "Lot.__eq__" (defArgs s_Lot_eq) (defBody s_Lot_eq) (defScope s_Lot_eq) dvs [] f fd) : FnG P w K mg base CX0 1 f fd ["self", "other"] (spM K 2 m_Lot_eq) :=
  mk_run (k := 0) F sc_Lot_eq [false, false] F_Lot_eq fun cdv A outer s H EE pin gd hr hp => ⟨_, (sb_one (ss_ret (se_and (se_isiC (K := K) E.isi_Lot E.n_isinstance (by decide +kernel) E.mk_Lot.mg (so_var 1)) (se_one (so_cmp (r := rEqD K) (op_eqD (u64 hr)) rg_eq (SE.o (se_fldK (K := K) (cn := "Lot") E.cls_Lot E.na_Lot_own_words (so_var 0))) (SE.o (se_fldK (K := K) (cn := "Lot") E.cls_Lot E.na_Lot_own_words (so_var 1))) (nomark _))))))⟩
theorem ok_Lot_eq {f : Addr} {fd : FuncData} {dvs : List V} (E : Env K mg) (h1 : PySem.W.findIn K (.ref (He.ga K "Lot")) "__eq__" = some (some (.ref f))) (h2 : PySem.W.isFn K (.ref f) = true) (h3 : PySem.W.keepIn K (.ref f) = true) (hb : Binds K fd ["self", "other"] []) (F : FunD K "__eq__" "Lot.__eq__" (defArgs s_Lot_eq) (defBody s_Lot_eq) (defScope s_Lot_eq) dvs [] f fd) : CalM P w K mg base "Lot" "__eq__" 1 ["self", "other"] m_Lot_eq :=
  ⟨f, fd, h1, h2, h3, hb, fn_Lot_eq E  F⟩
abbrev N_is_question : List Str := ["value"]
theorem sc_is_question : FnScope N_is_question ["value"] (defScope s_is_question) := ⟨rfl, rfl, rfl, by decide +kernel, rfl, by decide +kernel, by decide +kernel⟩
theorem bd_is_question : BindT "is_question" s_is_question ["value"] := fun _ _ _ _ _ _ us hl => match us, hl with | [_], _ => rfl
noncomputable def F_is_question : Fs := (fRet (fAndV (fCall m_is_word (fCons (fFz (fP 0)) fNil) [none]) (fBin gLe (fE (fUn gLen (fP 0))) (fE (fC (.int 24))))))
noncomputable def m_is_question : Mir := runM [false] N_is_question F_is_question
theorem ok_is_question {f : Addr} {fd : FuncData} (E : Env K mg) (c_is_word : Cal P w K mg base "is_word" s_is_word 1 ["value"] m_is_word) (hm : mg "is_question" = some (.ref f)) (F : FunD K "is_question" "is_question" (defArgs s_is_question) (defBody s_is_question) (defScope s_is_question) [] [] f fd) : Cal P w K mg base "is_question" s_is_question 2 ["value"] m_is_question :=
  ⟨f, fd, hm, F, mk_run (k := 1) F sc_is_question [false] F_is_question fun cdv A outer s H EE pin gd hr hp => ⟨_, (sb_one (ss_ret (se_and (se_call (K := K) c_is_word gd (hr.mono (by decide)) bd_is_word (sb0_cons (SO.fz (so_var 0)) sb0_nil) (len_cons len_nil)) (se_one (so_cmp op_le rg_le (SE.o (se_b1 (r := rLenQ K) call_lenQ rg_len E.n_len PySem.boot_len (so_var 0))) (SE.o (se_gint E.c_MOST_ASKED)) (nomark _))))))⟩⟩
abbrev N_want_question : List Str := ["value"]
theorem sc_want_question : FnScope N_want_question ["value"] (defScope s_want_question) := ⟨rfl, rfl, rfl, by decide +kernel, rfl, by decide +kernel, by decide +kernel⟩
theorem bd_want_question : BindT "want_question" s_want_question ["value"] := fun _ _ _ _ _ _ us hl => match us, hl with | [_], _ => rfl
noncomputable def F_want_question : Fs := (fIfS (fNot (fB (fCall m_is_question (fCons (fFz (fP 0)) fNil) [none]))) fStuck fNext)
noncomputable def m_want_question : Mir := runM [false] N_want_question F_want_question
theorem ok_want_question {f : Addr} {fd : FuncData} (E : Env K mg) (c_is_question : Cal P w K mg base "is_question" s_is_question 2 ["value"] m_is_question) (hm : mg "want_question" = some (.ref f)) (F : FunD K "want_question" "want_question" (defArgs s_want_question) (defBody s_want_question) (defScope s_want_question) [] [] f fd) : Cal P w K mg base "want_question" s_want_question 3 ["value"] m_want_question :=
  ⟨f, fd, hm, F, mk_run (k := 2) F sc_want_question [false] F_want_question fun cdv A outer s H EE pin gd hr hp => ⟨_, (sb_one (ss_if (st_not (st_val (se_call (K := K) c_is_question gd (hr.mono (by decide)) bd_is_question (sb0_cons (SO.fz (so_var 0)) sb0_nil) (len_cons len_nil)))) (sb_one (ss_never)) sb_nil))⟩⟩
abbrev N_is_integer : List Str := ["value"]
theorem sc_is_integer : FnScope N_is_integer ["value"] (defScope s_is_integer) := ⟨rfl, rfl, rfl, by decide +kernel, rfl, by decide +kernel, by decide +kernel⟩
theorem bd_is_integer : BindT "is_integer" s_is_integer ["value"] := fun _ _ _ _ _ _ us hl => match us, hl with | [_], _ => rfl
noncomputable def F_is_integer : Fs := (fRet (fAndV (fBin gIsi (fP 0) (fE (fC (.raw (.ty "int"))))) (fUn gNotV (fE (fBin gIsi (fP 0) (fE (fC (.raw (.ty "bool")))))))))
noncomputable def m_is_integer : Mir := runM [false] N_is_integer F_is_integer
theorem ok_is_integer {f : Addr} {fd : FuncData} (E : Env K mg) (hm : mg "is_integer" = some (.ref f)) (F : FunD K "is_integer" "is_integer" (defArgs s_is_integer) (defBody s_is_integer) (defScope s_is_integer) [] [] f fd) : Cal P w K mg base "is_integer" s_is_integer 1 ["value"] m_is_integer :=
  ⟨f, fd, hm, F, mk_run (k := 0) F sc_is_integer [false] F_is_integer fun cdv A outer s H EE pin gd hr hp => ⟨_, (sb_one (ss_ret (se_and (se_b2 (r := rIsi K) call_isi rg_isi E.n_isinstance (by decide +kernel) (so_var 0) (SE.o (se_ty (n := "int") E.n_int (by decide +kernel)))) (se_one (so_not (SE.o (se_b2 (r := rIsi K) call_isi rg_isi E.n_isinstance (by decide +kernel) (so_var 0) (SE.o (se_ty (n := "bool") E.n_bool (by decide +kernel))))))))))⟩⟩
abbrev N_is_count : List Str := ["value"]
theorem sc_is_count : FnScope N_is_count ["value"] (defScope s_is_count) := ⟨rfl, rfl, rfl, by decide +kernel, rfl, by decide +kernel, by decide +kernel⟩
theorem bd_is_count : BindT "is_count" s_is_count ["value"] := fun _ _ _ _ _ _ us hl => match us, hl with | [_], _ => rfl
noncomputable def F_is_count : Fs := (fRet (fAndV (fCall m_is_integer (fCons (fFz (fP 0)) fNil) [none]) (fBin gGe (fP 0) (fE (fC (.int 0))))))
noncomputable def m_is_count : Mir := runM [false] N_is_count F_is_count
theorem ok_is_count {f : Addr} {fd : FuncData} (E : Env K mg) (c_is_integer : Cal P w K mg base "is_integer" s_is_integer 1 ["value"] m_is_integer) (hm : mg "is_count" = some (.ref f)) (F : FunD K "is_count" "is_count" (defArgs s_is_count) (defBody s_is_count) (defScope s_is_count) [] [] f fd) : Cal P w K mg base "is_count" s_is_count 2 ["value"] m_is_count :=
  ⟨f, fd, hm, F, mk_run (k := 1) F sc_is_count [false] F_is_count fun cdv A outer s H EE pin gd hr hp => ⟨_, (sb_one (ss_ret (se_and (se_call (K := K) c_is_integer gd (hr.mono (by decide)) bd_is_integer (sb0_cons (SO.fz (so_var 0)) sb0_nil) (len_cons len_nil)) (se_one (so_cmp op_ge rg_ge (so_var 0) (SE.o (se_int)) (nomark _))))))⟩⟩
abbrev N_is_place : List Str := ["question", "value"]
theorem sc_is_place : FnScope N_is_place ["question", "value"] (defScope s_is_place) := ⟨rfl, rfl, rfl, by decide +kernel, rfl, by decide +kernel, by decide +kernel⟩
theorem bd_is_place : BindT "is_place" s_is_place ["question", "value"] := fun _ _ _ _ _ _ us hl => match us, hl with | [_, _], _ => rfl
noncomputable def F_is_place : Fs := (fRet (fAndV (fCall m_is_count (fCons (fFz (fP 1)) fNil) [none]) (fBin gLe (fP 1) (fE (fUn gLen (fP 0))))))
noncomputable def m_is_place : Mir := runM [false, false] N_is_place F_is_place
theorem ok_is_place {f : Addr} {fd : FuncData} (E : Env K mg) (c_is_count : Cal P w K mg base "is_count" s_is_count 2 ["value"] m_is_count) (hm : mg "is_place" = some (.ref f)) (F : FunD K "is_place" "is_place" (defArgs s_is_place) (defBody s_is_place) (defScope s_is_place) [] [] f fd) : Cal P w K mg base "is_place" s_is_place 3 ["question", "value"] m_is_place :=
  ⟨f, fd, hm, F, mk_run (k := 2) F sc_is_place [false, false] F_is_place fun cdv A outer s H EE pin gd hr hp => ⟨_, (sb_one (ss_ret (se_and (se_call (K := K) c_is_count gd (hr.mono (by decide)) bd_is_count (sb0_cons (SO.fz (so_var 1)) sb0_nil) (len_cons len_nil)) (se_one (so_cmp op_le rg_le (so_var 1) (SE.o (se_b1 (r := rLenQ K) call_lenQ rg_len E.n_len PySem.boot_len (so_var 0))) (nomark _))))))⟩⟩
abbrev N_want_place : List Str := ["question", "value"]
theorem sc_want_place : FnScope N_want_place ["question", "value"] (defScope s_want_place) := ⟨rfl, rfl, rfl, by decide +kernel, rfl, by decide +kernel, by decide +kernel⟩
theorem bd_want_place : BindT "want_place" s_want_place ["question", "value"] := fun _ _ _ _ _ _ us hl => match us, hl with | [_, _], _ => rfl
noncomputable def F_want_place : Fs := (fIfS (fNot (fB (fCall m_is_place (fCons (fFz (fP 0)) (fCons (fFz (fP 1)) fNil)) [none, none]))) fStuck fNext)
noncomputable def m_want_place : Mir := runM [false, false] N_want_place F_want_place
theorem ok_want_place {f : Addr} {fd : FuncData} (E : Env K mg) (c_is_place : Cal P w K mg base "is_place" s_is_place 3 ["question", "value"] m_is_place) (hm : mg "want_place" = some (.ref f)) (F : FunD K "want_place" "want_place" (defArgs s_want_place) (defBody s_want_place) (defScope s_want_place) [] [] f fd) : Cal P w K mg base "want_place" s_want_place 4 ["question", "value"] m_want_place :=
  ⟨f, fd, hm, F, mk_run (k := 3) F sc_want_place [false, false] F_want_place fun cdv A outer s H EE pin gd hr hp => ⟨_, (sb_one (ss_if (st_not (st_val (se_call (K := K) c_is_place gd (hr.mono (by decide)) bd_is_place (sb0_cons (SO.fz (so_var 0)) (sb0_cons (SO.fz (so_var 1)) sb0_nil)) (len_cons (len_cons len_nil))))) (sb_one (ss_never)) sb_nil))⟩⟩
abbrev N_spread : List Str := ["links", "start", "goals", "one", "other", "known", "waiting", "goal"]
theorem sc_spread : FnScope N_spread ["links", "start"] (defScope s_spread) := ⟨rfl, rfl, rfl, by decide +kernel, rfl, by decide +kernel, by decide +kernel⟩
theorem bd_spread : BindT "spread" s_spread ["links", "start"] := fun _ _ _ _ _ _ us hl => match us, hl with | [_, _], _ => rfl
noncomputable def F_spread : Fs := (fSeq (fAsg fDNew (gN 2)) (fSeq (fFor (fItS (fFz (fP 0))) (gT 2 (gsCons (gN 3) (gsCons (gN 4) gsNil))) (fAsg (fFz (fE (fBin gAdd (fE (fGet2 (fP 2) (fFz (fP 3)) (fLst fNil))) (fE (fLst (fCons (fFz (fP 4)) fNil)))))) (gSetQ 2 (fFz (fP 3))))) (fSeq (fPar (fCons (fD1 (fFz (fP 1)) (fC (.bl true))) (fCons (fLst (fCons (fFz (fP 1)) fNil)) fNil)) (gs2 5 6)) (fSeq (fun ρ => loopW (fB (fBin gNe (fP 6) (fE (fLst fNil)))) (fFor (fItS (fFz (fE (fGet2 (fP 2) (fFz (fE (fPop 6))) (fLst fNil))))) (gN 7) (fIfS (fB (fBin (gDIn true) (fP 7) (fP 5))) (fSeq (fAsg (fC (.bl true)) (gSetQ 5 (fFz (fP 7)))) (fX (fAppend 6 (fFz (fP 7))))) fNext)) 1000000 ρ) (fRet (fUn gSortedD (fP 5)))))))
noncomputable def m_spread : Mir := runM [false, false] N_spread F_spread
theorem ok_spread {f : Addr} {fd : FuncData} (E : Env K mg) (hm : mg "spread" = some (.ref f)) (F : FunD K "spread" "spread" (defArgs s_spread) (defBody s_spread) (defScope s_spread) [] [] f fd) : Cal P w K mg base "spread" s_spread 1 ["links", "start"] m_spread :=
  ⟨f, fd, hm, F, mk_run (k := 0) F sc_spread [false, false] F_spread fun cdv A outer s H EE pin gd hr hp => ⟨_, (sb_cons (ss_set sc_spread.nd (hp 2 (by decide)) (se_dnew)) (sb_cons (ss_for PassesOwn.never rfl (si_seq (K := K) (SO.fz (so_var 0))) (sg_tup (K := K) rfl (sgs_cons (sg_name sc_spread.nd (hp 3 (by decide))) (sgs_cons (sg_name sc_spread.nd (hp 4 (by decide))) sgs_nil))) (sb_one (ss_asg (SO.fz (SE.o (so_op op_addQ rg_addQ (SE.o (se_get2 (u1 hr) (so_var 2) (SO.fz (so_var 3)) (se_list sa_nil))) (SE.o (se_list (sa_cons (SO.fz (so_var 4)) sa_nil)))))) (sg_setQ (u1 hr) (i := 2) (SO.fz (so_var 3)))))) (sb_cons (ss_par2 (i := 5) (j := 6) rfl sc_spread.nd (hp 5 (by decide)) (hp 6 (by decide)) (by decide) (sa_cons (se_d1 (SO.fz (so_var 1)) (se_bl)) (sa_cons (se_list (sa_cons (SO.fz (so_var 1)) sa_nil)) sa_nil))) (sb_cons (ss_while 1000000 PassesOwn.never (st_cmp (r := rNeD K) (op_neD (u64 hr)) rg_ne (so_var 6) (SE.o (se_list sa_nil)) (nomark _)) (sb_one (ss_for PassesOwn.never rfl (si_seq (K := K) (SO.fz (SE.o (se_get2 (u1 hr) (so_var 2) (SO.fz (SE.o (se_pop (i := 6)))) (se_list sa_nil))))) (sg_name sc_spread.nd (hp 7 (by decide))) (sb_one (ss_if (st_cmp (r := rDIn true) (op_dnotin (u1 hr)) rg_din (so_var 7) (so_var 5) (by rfl)) (sb_cons (ss_asg (se_bl) (sg_setQ (u1 hr) (i := 5) (SO.fz (so_var 7)))) (sb_one (ss_expr (se_append (i := 6) (SO.fz (so_var 7)))))) sb_nil))))) (sb_one (ss_ret (se_b1 (r := rSortD) (call_sortedDI rfl) rg_sortD E.n_sorted (by decide +kernel) (so_var 5))))))))⟩⟩
abbrev N_stands_at : List Str := ["question", "word", "place"]
theorem sc_stands_at : FnScope N_stands_at ["question", "word"] (defScope s_stands_at) := ⟨rfl, rfl, rfl, by decide +kernel, rfl, by decide +kernel, by decide +kernel⟩
theorem bd_stands_at : BindT "stands_at" s_stands_at ["question", "word"] := fun _ _ _ _ _ _ us hl => match us, hl with | [_, _], _ => rfl
noncomputable def F_stands_at : Fs := (fRet (fLc [2] (fItR1 (fCons (fBin gAdd (fE (fBin gSubI (fE (fUn gLen (fP 0))) (fE (fUn gLen (fP 1))))) (fE (fC (.int 1)))) fNil)) (gN 2) (fB (fBin gEq (fE (fSl (fP 0) (fPart (fFz (fP 2))) (fPart (fBin gAdd (fP 2) (fE (fUn gLen (fP 1))))))) (fP 1))) (fFz (fP 2))))
noncomputable def m_stands_at : Mir := runM [false, false] N_stands_at F_stands_at
theorem ok_stands_at {f : Addr} {fd : FuncData} (E : Env K mg) (hm : mg "stands_at" = some (.ref f)) (F : FunD K "stands_at" "stands_at" (defArgs s_stands_at) (defBody s_stands_at) (defScope s_stands_at) [] [] f fd) : Cal P w K mg base "stands_at" s_stands_at 1 ["question", "word"] m_stands_at :=
  ⟨f, fd, hm, F, mk_run (k := 0) F sc_stands_at [false, false] F_stands_at fun cdv A outer s H EE pin gd hr hp => ⟨_, (sb_one (ss_ret (se_lc (own := [("place", 2)]) rfl sc_stands_at.nd (si_rng1 E.n_range (sa_cons (so_op op_addQ rg_addQ (SE.o (so_op op_sub rg_sub (SE.o (se_b1 (r := rLenQ K) call_lenQ rg_len E.n_len PySem.boot_len (so_var 0))) (SE.o (se_b1 (r := rLenQ K) call_lenQ rg_len E.n_len PySem.boot_len (so_var 1))))) (SE.o (se_int))) sa_nil)) (blkOk_by (N := N_stands_at) (sc := defScope s_stands_at) (own := [("place", 2)]) (by decide +kernel)) (fun i hi => hp i (by revert i; decide)) (by decide) (fun _ _ _ _ _ => (sg_name sc_stands_at.nd (hp 2 (by decide)))) (fun _ _ _ _ _ => (stl_one (st_cmp (r := rEqD K) (op_eqD (u64 hr)) rg_eq (SE.o (se_sl (K := K) (so_var 0) (sp_some (SO.fz (so_var 2))) (sp_some (so_op op_addQ rg_addQ (so_var 2) (SE.o (se_b1 (r := rLenQ K) call_lenQ rg_len E.n_len PySem.boot_len (so_var 1))))))) (so_var 1) (nomark _)))) (fun _ _ _ _ _ => SO.fz (so_var 2)))))⟩⟩
abbrev N_bridges_by : List Str := ["words", "question", "found", "word", "place"]
theorem sc_bridges_by : FnScope N_bridges_by ["words", "question"] (defScope s_bridges_by) := ⟨rfl, rfl, rfl, by decide +kernel, rfl, by decide +kernel, by decide +kernel⟩
theorem bd_bridges_by : BindT "bridges_by" s_bridges_by ["words", "question"] := fun _ _ _ _ _ _ us hl => match us, hl with | [_, _], _ => rfl
noncomputable def F_bridges_by : Fs := (fSeq (fAsg (fLst fNil) (gN 2)) (fSeq (fFor (fItS (fFz (fP 0))) (gN 3) (fX (fExtend 2 (fLc [4] (fItS (fFz (fE (fCall m_stands_at (fCons (fFz (fP 1)) (fCons (fFz (fP 3)) fNil)) [none, none])))) (gN 4) fYes (fTup (fCons (fFz (fP 4)) (fCons (fBin gAdd (fP 4) (fE (fUn gLen (fP 3)))) (fCons (fFz (fP 3)) fNil)))))))) (fRet (fUn gSorted (fP 2)))))
noncomputable def m_bridges_by : Mir := runM [false, false] N_bridges_by F_bridges_by
theorem ok_bridges_by {f : Addr} {fd : FuncData} (E : Env K mg) (c_stands_at : Cal P w K mg base "stands_at" s_stands_at 1 ["question", "word"] m_stands_at) (hm : mg "bridges_by" = some (.ref f)) (F : FunD K "bridges_by" "bridges_by" (defArgs s_bridges_by) (defBody s_bridges_by) (defScope s_bridges_by) [] [] f fd) : Cal P w K mg base "bridges_by" s_bridges_by 2 ["words", "question"] m_bridges_by :=
  ⟨f, fd, hm, F, mk_run (k := 1) F sc_bridges_by [false, false] F_bridges_by fun cdv A outer s H EE pin gd hr hp => ⟨_, (sb_cons (ss_set sc_bridges_by.nd (hp 2 (by decide)) (se_list sa_nil)) (sb_cons (ss_for PassesOwn.never rfl (si_seq (K := K) (SO.fz (so_var 0))) (sg_name sc_bridges_by.nd (hp 3 (by decide))) (sb_one (ss_expr (se_extend (i := 2) (se_lc (own := [("place", 4)]) rfl sc_bridges_by.nd (si_seq (K := K) (SO.fz (SE.o (se_call (K := K) c_stands_at gd (hr.mono (by decide)) bd_stands_at (sb0_cons (SO.fz (so_var 1)) (sb0_cons (SO.fz (so_var 3)) sb0_nil)) (len_cons (len_cons len_nil)))))) (blkOk_by (N := N_bridges_by) (sc := defScope s_bridges_by) (own := [("place", 4)]) (by decide +kernel)) (fun i hi => hp i (by revert i; decide)) (by decide) (fun _ _ _ _ _ => (sg_name sc_bridges_by.nd (hp 4 (by decide)))) (fun _ _ _ _ _ => stl_nil) (fun _ _ _ _ _ => se_tup (sa_cons (SO.fz (so_var 4)) (sa_cons (so_op op_addQ rg_addQ (so_var 4) (SE.o (se_b1 (r := rLenQ K) call_lenQ rg_len E.n_len PySem.boot_len (so_var 3)))) (sa_cons (SO.fz (so_var 3)) sa_nil))))))))) (sb_one (ss_ret (se_b1 (r := Qy.rSorted K) (cr_sortedQ (u67 hr)) rg_sorted E.n_sorted (by decide +kernel) (so_var 2))))))⟩⟩
abbrev N_bridges_of : List Str := ["lot", "question"]
theorem sc_bridges_of : FnScope N_bridges_of ["lot", "question"] (defScope s_bridges_of) := ⟨rfl, rfl, rfl, by decide +kernel, rfl, by decide +kernel, by decide +kernel⟩
theorem bd_bridges_of : BindT "bridges_of" s_bridges_of ["lot", "question"] := fun _ _ _ _ _ _ us hl => match us, hl with | [_, _], _ => rfl
noncomputable def F_bridges_of : Fs := (fRet (fCall m_bridges_by (fCons (fUn (gFld "Lot" "own_words") (fP 0)) (fCons (fFz (fP 1)) fNil)) [none, none]))
noncomputable def m_bridges_of : Mir := runM [false, false] N_bridges_of F_bridges_of
theorem ok_bridges_of {f : Addr} {fd : FuncData} (E : Env K mg) (c_bridges_by : Cal P w K mg base "bridges_by" s_bridges_by 2 ["words", "question"] m_bridges_by) (hm : mg "bridges_of" = some (.ref f)) (F : FunD K "bridges_of" "bridges_of" (defArgs s_bridges_of) (defBody s_bridges_of) (defScope s_bridges_of) [] [] f fd) : Cal P w K mg base "bridges_of" s_bridges_of 3 ["lot", "question"] m_bridges_of :=
  ⟨f, fd, hm, F, mk_run (k := 2) F sc_bridges_of [false, false] F_bridges_of fun cdv A outer s H EE pin gd hr hp => ⟨_, (sb_one (ss_ret (se_call (K := K) c_bridges_by gd (hr.mono (by decide)) bd_bridges_by (sb0_cons (se_fldK (K := K) (cn := "Lot") E.cls_Lot E.na_Lot_own_words (so_var 0)) (sb0_cons (SO.fz (so_var 1)) sb0_nil)) (len_cons (len_cons len_nil)))))⟩⟩
abbrev N_forth_of : List Str := ["lot", "question", "place", "begin", "end", "word"]
theorem sc_forth_of : FnScope N_forth_of ["lot", "question", "place"] (defScope s_forth_of) := ⟨rfl, rfl, rfl, by decide +kernel, rfl, by decide +kernel, by decide +kernel⟩
theorem bd_forth_of : BindT "forth_of" s_forth_of ["lot", "question", "place"] := fun _ _ _ _ _ _ us hl => match us, hl with | [_, _, _], _ => rfl
noncomputable def F_forth_of : Fs := (fRet (fCall m_spread (fCons (fFz (fE (fLc [3, 4, 5] (fItS (fFz (fE (fCall m_bridges_of (fCons (fFz (fP 0)) (fCons (fFz (fP 1)) fNil)) [none, none])))) (gT 3 (gsCons (gN 3) (gsCons (gN 4) (gsCons (gN 5) gsNil)))) fYes (fTup (fCons (fFz (fP 3)) (fCons (fFz (fP 4)) fNil)))))) (fCons (fFz (fP 2)) fNil)) [none, none]))
noncomputable def m_forth_of : Mir := runM [false, false, false] N_forth_of F_forth_of
theorem ok_forth_of {f : Addr} {fd : FuncData} (E : Env K mg) (c_spread : Cal P w K mg base "spread" s_spread 1 ["links", "start"] m_spread) (c_bridges_of : Cal P w K mg base "bridges_of" s_bridges_of 3 ["lot", "question"] m_bridges_of) (hm : mg "forth_of" = some (.ref f)) (F : FunD K "forth_of" "forth_of" (defArgs s_forth_of) (defBody s_forth_of) (defScope s_forth_of) [] [] f fd) : Cal P w K mg base "forth_of" s_forth_of 4 ["lot", "question", "place"] m_forth_of :=
  ⟨f, fd, hm, F, mk_run (k := 3) F sc_forth_of [false, false, false] F_forth_of fun cdv A outer s H EE pin gd hr hp => ⟨_, (sb_one (ss_ret (se_call (K := K) c_spread gd (hr.mono (by decide)) bd_spread (sb0_cons (SO.fz (SE.o (se_lc (own := [("begin", 3), ("end", 4), ("word", 5)]) rfl sc_forth_of.nd (si_seq (K := K) (SO.fz (SE.o (se_call (K := K) c_bridges_of gd (hr.mono (by decide)) bd_bridges_of (sb0_cons (SO.fz (so_var 0)) (sb0_cons (SO.fz (so_var 1)) sb0_nil)) (len_cons (len_cons len_nil)))))) (blkOk_by (N := N_forth_of) (sc := defScope s_forth_of) (own := [("begin", 3), ("end", 4), ("word", 5)]) (by decide +kernel)) (fun i hi => hp i (by revert i; decide)) (by decide) (fun _ _ _ _ _ => (sg_tup (K := K) rfl (sgs_cons (sg_name sc_forth_of.nd (hp 3 (by decide))) (sgs_cons (sg_name sc_forth_of.nd (hp 4 (by decide))) (sgs_cons (sg_name sc_forth_of.nd (hp 5 (by decide))) sgs_nil))))) (fun _ _ _ _ _ => stl_nil) (fun _ _ _ _ _ => se_tup (sa_cons (SO.fz (so_var 3)) (sa_cons (SO.fz (so_var 4)) sa_nil)))))) (sb0_cons (SO.fz (so_var 2)) sb0_nil)) (len_cons (len_cons len_nil)))))⟩⟩
abbrev N_forth_from : List Str := ["lot", "question", "place"]
theorem sc_forth_from : FnScope N_forth_from ["lot", "question", "place"] (defScope s_forth_from) := ⟨rfl, rfl, rfl, by decide +kernel, rfl, by decide +kernel, by decide +kernel⟩
theorem bd_forth_from : BindT "forth_from" s_forth_from ["lot", "question", "place"] := fun _ _ _ _ _ _ us hl => match us, hl with | [_, _, _], _ => rfl
noncomputable def F_forth_from : Fs := (fSeq (fX (fCall m_want_question (fCons (fFz (fP 1)) fNil) [none])) (fSeq (fX (fCall m_want_place (fCons (fFz (fP 1)) (fCons (fFz (fP 2)) fNil)) [none, none])) (fRet (fCall m_forth_of (fCons (fFz (fP 0)) (fCons (fFz (fP 1)) (fCons (fFz (fP 2)) fNil))) [none, none, none]))))
noncomputable def m_forth_from : Mir := runM [false, false, false] N_forth_from F_forth_from
theorem ok_forth_from {f : Addr} {fd : FuncData} (E : Env K mg) (c_forth_of : Cal P w K mg base "forth_of" s_forth_of 4 ["lot", "question", "place"] m_forth_of) (c_want_place : Cal P w K mg base "want_place" s_want_place 4 ["question", "value"] m_want_place) (c_want_question : Cal P w K mg base "want_question" s_want_question 3 ["value"] m_want_question) (hm : mg "forth_from" = some (.ref f)) (F : FunD K "forth_from" "forth_from" (defArgs s_forth_from) (defBody s_forth_from) (defScope s_forth_from) [] [] f fd) : Cal P w K mg base "forth_from" s_forth_from 5 ["lot", "question", "place"] m_forth_from :=
  ⟨f, fd, hm, F, mk_run (k := 4) F sc_forth_from [false, false, false] F_forth_from fun cdv A outer s H EE pin gd hr hp => ⟨_, (sb_cons (ss_expr (se_call (K := K) c_want_question gd (hr.mono (by decide)) bd_want_question (sb0_cons (SO.fz (so_var 1)) sb0_nil) (len_cons len_nil))) (sb_cons (ss_expr (se_call (K := K) c_want_place gd (hr.mono (by decide)) bd_want_place (sb0_cons (SO.fz (so_var 1)) (sb0_cons (SO.fz (so_var 2)) sb0_nil)) (len_cons (len_cons len_nil)))) (sb_one (ss_ret (se_call (K := K) c_forth_of gd (hr.mono (by decide)) bd_forth_of (sb0_cons (SO.fz (so_var 0)) (sb0_cons (SO.fz (so_var 1)) (sb0_cons (SO.fz (so_var 2)) sb0_nil))) (len_cons (len_cons (len_cons len_nil))))))))⟩⟩
abbrev N_forth_to : List Str := ["lot", "question", "place", "begin", "end", "word"]
theorem sc_forth_to : FnScope N_forth_to ["lot", "question", "place"] (defScope s_forth_to) := ⟨rfl, rfl, rfl, by decide +kernel, rfl, by decide +kernel, by decide +kernel⟩
theorem bd_forth_to : BindT "forth_to" s_forth_to ["lot", "question", "place"] := fun _ _ _ _ _ _ us hl => match us, hl with | [_, _, _], _ => rfl
noncomputable def F_forth_to : Fs := (fSeq (fX (fCall m_want_question (fCons (fFz (fP 1)) fNil) [none])) (fSeq (fX (fCall m_want_place (fCons (fFz (fP 1)) (fCons (fFz (fP 2)) fNil)) [none, none])) (fRet (fCall m_spread (fCons (fFz (fE (fLc [3, 4, 5] (fItS (fFz (fE (fCall m_bridges_of (fCons (fFz (fP 0)) (fCons (fFz (fP 1)) fNil)) [none, none])))) (gT 3 (gsCons (gN 3) (gsCons (gN 4) (gsCons (gN 5) gsNil)))) fYes (fTup (fCons (fFz (fP 4)) (fCons (fFz (fP 3)) fNil)))))) (fCons (fFz (fP 2)) fNil)) [none, none]))))
noncomputable def m_forth_to : Mir := runM [false, false, false] N_forth_to F_forth_to
theorem ok_forth_to {f : Addr} {fd : FuncData} (E : Env K mg) (c_spread : Cal P w K mg base "spread" s_spread 1 ["links", "start"] m_spread) (c_bridges_of : Cal P w K mg base "bridges_of" s_bridges_of 3 ["lot", "question"] m_bridges_of) (c_want_place : Cal P w K mg base "want_place" s_want_place 4 ["question", "value"] m_want_place) (c_want_question : Cal P w K mg base "want_question" s_want_question 3 ["value"] m_want_question) (hm : mg "forth_to" = some (.ref f)) (F : FunD K "forth_to" "forth_to" (defArgs s_forth_to) (defBody s_forth_to) (defScope s_forth_to) [] [] f fd) : Cal P w K mg base "forth_to" s_forth_to 5 ["lot", "question", "place"] m_forth_to :=
  ⟨f, fd, hm, F, mk_run (k := 4) F sc_forth_to [false, false, false] F_forth_to fun cdv A outer s H EE pin gd hr hp => ⟨_, (sb_cons (ss_expr (se_call (K := K) c_want_question gd (hr.mono (by decide)) bd_want_question (sb0_cons (SO.fz (so_var 1)) sb0_nil) (len_cons len_nil))) (sb_cons (ss_expr (se_call (K := K) c_want_place gd (hr.mono (by decide)) bd_want_place (sb0_cons (SO.fz (so_var 1)) (sb0_cons (SO.fz (so_var 2)) sb0_nil)) (len_cons (len_cons len_nil)))) (sb_one (ss_ret (se_call (K := K) c_spread gd (hr.mono (by decide)) bd_spread (sb0_cons (SO.fz (SE.o (se_lc (own := [("begin", 3), ("end", 4), ("word", 5)]) rfl sc_forth_to.nd (si_seq (K := K) (SO.fz (SE.o (se_call (K := K) c_bridges_of gd (hr.mono (by decide)) bd_bridges_of (sb0_cons (SO.fz (so_var 0)) (sb0_cons (SO.fz (so_var 1)) sb0_nil)) (len_cons (len_cons len_nil)))))) (blkOk_by (N := N_forth_to) (sc := defScope s_forth_to) (own := [("begin", 3), ("end", 4), ("word", 5)]) (by decide +kernel)) (fun i hi => hp i (by revert i; decide)) (by decide) (fun _ _ _ _ _ => (sg_tup (K := K) rfl (sgs_cons (sg_name sc_forth_to.nd (hp 3 (by decide))) (sgs_cons (sg_name sc_forth_to.nd (hp 4 (by decide))) (sgs_cons (sg_name sc_forth_to.nd (hp 5 (by decide))) sgs_nil))))) (fun _ _ _ _ _ => stl_nil) (fun _ _ _ _ _ => se_tup (sa_cons (SO.fz (so_var 4)) (sa_cons (SO.fz (so_var 3)) sa_nil)))))) (sb0_cons (SO.fz (so_var 2)) sb0_nil)) (len_cons (len_cons len_nil)))))))⟩⟩
abbrev N_law_further_right : List Str := ["_law_pot_here", "_law_lot", "_law_question", "_law_turn", "_law_place", "_law_goals_here", "_law_goal", "_law_end"]
theorem sc_law_further_right : FnScope N_law_further_right ["_law_pot_here", "_law_lot", "_law_question"] (defScope s_law_further_right) := ⟨rfl, rfl, rfl, by decide +kernel, rfl, by decide +kernel, by decide +kernel⟩
theorem bd_law_further_right : BindT "_law_further_right" s_law_further_right ["_law_pot_here", "_law_lot", "_law_question"] := fun _ _ _ _ _ _ us hl => match us, hl with | [_, _, _], _ => rfl
noncomputable def F_law_further_right : Fs := (fSeq (fFor (fItR1 (fCons (fC (.int 4)) fNil)) (gN 3) (fSeq (fAsg (fCall m_law_draw (fLend 0 (fCons (fBin gAdd (fE (fUn gLen (fP 2))) (fE (fC (.int 1)))) fNil)) [some 0, none]) (gN 4)) (fSeq (fAsg (fCall m_forth_from (fCons (fFz (fP 1)) (fCons (fFz (fP 2)) (fCons (fFz (fP 4)) fNil))) [none, none, none]) (gN 5)) (fSeq (fAsg (fCall m_law_pick (fLend 0 (fCons (fFz (fP 5)) fNil)) [some 0, none]) (gN 6)) (fSeq (fIfS (fNot (fB (fUn gAll (fE (fLc [7] (fItS (fFz (fE (fCall m_forth_from (fCons (fFz (fP 1)) (fCons (fFz (fP 2)) (fCons (fFz (fP 6)) fNil))) [none, none, none])))) (gN 7) fYes (fBin gInQ (fP 7) (fP 5))))))) (fRet (fC (.bl false))) fNext) (fIfS (fB (fBin gNotInQ (fP 4) (fE (fCall m_forth_to (fCons (fFz (fP 1)) (fCons (fFz (fP 2)) (fCons (fFz (fP 6)) fNil))) [none, none, none])))) (fRet (fC (.bl false))) fNext)))))) (fRet (fC (.bl true))))
noncomputable def m_law_further_right : Mir := runM [true, false, false] N_law_further_right F_law_further_right
theorem ok_law_further_right {f : Addr} {fd : FuncData} (E : Env K mg) (c_forth_to : Cal P w K mg base "forth_to" s_forth_to 5 ["lot", "question", "place"] m_forth_to) (c_forth_from : Cal P w K mg base "forth_from" s_forth_from 5 ["lot", "question", "place"] m_forth_from) (c_law_pick : Cal P w K mg base "_law_pick" s_law_pick 2 ["_law_pot_here", "_law_some"] m_law_pick) (c_law_draw : Cal P w K mg base "_law_draw" s_law_draw 1 ["_law_pot_here", "_law_many"] m_law_draw) (hm : mg "_law_further_right" = some (.ref f)) (F : FunD K "_law_further_right" "_law_further_right" (defArgs s_law_further_right) (defBody s_law_further_right) (defScope s_law_further_right) [] [] f fd) : Cal P w K mg base "_law_further_right" s_law_further_right 6 ["_law_pot_here", "_law_lot", "_law_question"] m_law_further_right :=
  ⟨f, fd, hm, F, mk_run (k := 5) F sc_law_further_right [true, false, false] F_law_further_right fun cdv A outer s H EE pin gd hr hp => ⟨_, (sb_cons (ss_for PassesOwn.never rfl (si_rng1 E.n_range (sa_cons (se_int) sa_nil)) (sg_name sc_law_further_right.nd (hp 3 (by decide))) (sb_cons (ss_set sc_law_further_right.nd (hp 4 (by decide)) (se_call (K := K) c_law_draw gd (hr.mono (by decide)) bd_law_draw (sb0_lend 0 (sb0_cons (so_op op_addQ rg_addQ (SE.o (se_b1 (r := rLenQ K) call_lenQ rg_len E.n_len PySem.boot_len (so_var 2))) (SE.o (se_int))) sb0_nil)) (len_lend (len_cons len_nil)))) (sb_cons (ss_set sc_law_further_right.nd (hp 5 (by decide)) (se_call (K := K) c_forth_from gd (hr.mono (by decide)) bd_forth_from (sb0_cons (SO.fz (so_var 1)) (sb0_cons (SO.fz (so_var 2)) (sb0_cons (SO.fz (so_var 4)) sb0_nil))) (len_cons (len_cons (len_cons len_nil))))) (sb_cons (ss_set sc_law_further_right.nd (hp 6 (by decide)) (se_call (K := K) c_law_pick gd (hr.mono (by decide)) bd_law_pick (sb0_lend 0 (sb0_cons (SO.fz (so_var 5)) sb0_nil)) (len_lend (len_cons len_nil)))) (sb_cons (ss_if (st_not (st_val (se_b1 (r := rAll K) (cr_all rfl) rg_all E.n_all (by decide +kernel) (SE.o (se_lc (own := [("_law_end", 7)]) rfl sc_law_further_right.nd (si_seq (K := K) (SO.fz (SE.o (se_call (K := K) c_forth_from gd (hr.mono (by decide)) bd_forth_from (sb0_cons (SO.fz (so_var 1)) (sb0_cons (SO.fz (so_var 2)) (sb0_cons (SO.fz (so_var 6)) sb0_nil))) (len_cons (len_cons (len_cons len_nil))))))) (blkOk_by (N := N_law_further_right) (sc := defScope s_law_further_right) (own := [("_law_end", 7)]) (by decide +kernel)) (fun i hi => hp i (by revert i; decide)) (by decide) (fun _ _ _ _ _ => (sg_name sc_law_further_right.nd (hp 7 (by decide)))) (fun _ _ _ _ _ => stl_nil) (fun _ _ _ _ _ => so_cmp (r := rInQ K) (op_inQ (u65 hr)) rg_inQ (so_var 7) (so_var 5) (by rfl))))))) (sb_one (ss_ret (se_bl))) sb_nil) (sb_one (ss_if (st_cmp (r := rNotInQ K) (op_notInQ (u65 hr)) rg_notInQ (so_var 4) (SE.o (se_call (K := K) c_forth_to gd (hr.mono (by decide)) bd_forth_to (sb0_cons (SO.fz (so_var 1)) (sb0_cons (SO.fz (so_var 2)) (sb0_cons (SO.fz (so_var 6)) sb0_nil))) (len_cons (len_cons (len_cons len_nil))))) (by rfl)) (sb_one (ss_ret (se_bl))) sb_nil))))))) (sb_one (ss_ret (se_bl))))⟩⟩
abbrev N_class_by : List Str := ["some", "place", "links", "begin", "end", "word"]
theorem sc_class_by : FnScope N_class_by ["some", "place"] (defScope s_class_by) := ⟨rfl, rfl, rfl, by decide +kernel, rfl, by decide +kernel, by decide +kernel⟩
theorem bd_class_by : BindT "class_by" s_class_by ["some", "place"] := fun _ _ _ _ _ _ us hl => match us, hl with | [_, _], _ => rfl
noncomputable def F_class_by : Fs := (fSeq (fAsg (fLc [3, 4, 5] (fItS (fFz (fP 0))) (gT 3 (gsCons (gN 3) (gsCons (gN 4) (gsCons (gN 5) gsNil)))) fYes (fTup (fCons (fFz (fP 3)) (fCons (fFz (fP 4)) fNil)))) (gN 2)) (fRet (fCall m_spread (fCons (fFz (fE (fBin gAdd (fE (fFz (fP 2))) (fE (fLc [3, 4] (fItS (fFz (fP 2))) (gT 2 (gsCons (gN 3) (gsCons (gN 4) gsNil))) fYes (fTup (fCons (fFz (fP 4)) (fCons (fFz (fP 3)) fNil)))))))) (fCons (fFz (fP 1)) fNil)) [none, none])))
noncomputable def m_class_by : Mir := runM [false, false] N_class_by F_class_by
theorem ok_class_by {f : Addr} {fd : FuncData} (E : Env K mg) (c_spread : Cal P w K mg base "spread" s_spread 1 ["links", "start"] m_spread) (hm : mg "class_by" = some (.ref f)) (F : FunD K "class_by" "class_by" (defArgs s_class_by) (defBody s_class_by) (defScope s_class_by) [] [] f fd) : Cal P w K mg base "class_by" s_class_by 2 ["some", "place"] m_class_by :=
  ⟨f, fd, hm, F, mk_run (k := 1) F sc_class_by [false, false] F_class_by fun cdv A outer s H EE pin gd hr hp => ⟨_, (sb_cons (ss_setLc (own := [("begin", 3), ("end", 4), ("word", 5)]) rfl sc_class_by.nd (hp 2 (by decide)) (si_seq (K := K) (SO.fz (so_var 0))) (blkOk_by (N := N_class_by) (sc := defScope s_class_by) (own := [("begin", 3), ("end", 4), ("word", 5)]) (by decide +kernel)) (fun i hi => hp i (by revert i; decide)) (by decide) (fun _ _ _ _ _ => (sg_tup (K := K) rfl (sgs_cons (sg_name sc_class_by.nd (hp 3 (by decide))) (sgs_cons (sg_name sc_class_by.nd (hp 4 (by decide))) (sgs_cons (sg_name sc_class_by.nd (hp 5 (by decide))) sgs_nil))))) (fun _ _ _ _ _ => stl_nil) (fun _ _ _ _ _ => se_tup (sa_cons (SO.fz (so_var 3)) (sa_cons (SO.fz (so_var 4)) sa_nil)))) (sb_one (ss_ret (se_call (K := K) c_spread gd (hr.mono (by decide)) bd_spread (sb0_cons (SO.fz (SE.o (so_op op_addQ rg_addQ (SE.o (SO.fz (so_var 2))) (SE.o (se_lc (own := [("begin", 3), ("end", 4)]) rfl sc_class_by.nd (si_seq (K := K) (SO.fz (so_var 2))) (blkOk_by (N := N_class_by) (sc := defScope s_class_by) (own := [("begin", 3), ("end", 4)]) (by decide +kernel)) (fun i hi => hp i (by revert i; decide)) (by decide) (fun _ _ _ _ _ => (sg_tup (K := K) rfl (sgs_cons (sg_name sc_class_by.nd (hp 3 (by decide))) (sgs_cons (sg_name sc_class_by.nd (hp 4 (by decide))) sgs_nil)))) (fun _ _ _ _ _ => stl_nil) (fun _ _ _ _ _ => se_tup (sa_cons (SO.fz (so_var 4)) (sa_cons (SO.fz (so_var 3)) sa_nil)))))))) (sb0_cons (SO.fz (so_var 1)) sb0_nil)) (len_cons (len_cons len_nil))))))⟩⟩
abbrev N_class_of : List Str := ["lot", "question", "place"]
theorem sc_class_of : FnScope N_class_of ["lot", "question", "place"] (defScope s_class_of) := ⟨rfl, rfl, rfl, by decide +kernel, rfl, by decide +kernel, by decide +kernel⟩
theorem bd_class_of : BindT "class_of" s_class_of ["lot", "question", "place"] := fun _ _ _ _ _ _ us hl => match us, hl with | [_, _, _], _ => rfl
noncomputable def F_class_of : Fs := (fRet (fCall m_class_by (fCons (fFz (fE (fCall m_bridges_of (fCons (fFz (fP 0)) (fCons (fFz (fP 1)) fNil)) [none, none]))) (fCons (fFz (fP 2)) fNil)) [none, none]))
noncomputable def m_class_of : Mir := runM [false, false, false] N_class_of F_class_of
theorem ok_class_of {f : Addr} {fd : FuncData} (E : Env K mg) (c_class_by : Cal P w K mg base "class_by" s_class_by 2 ["some", "place"] m_class_by) (c_bridges_of : Cal P w K mg base "bridges_of" s_bridges_of 3 ["lot", "question"] m_bridges_of) (hm : mg "class_of" = some (.ref f)) (F : FunD K "class_of" "class_of" (defArgs s_class_of) (defBody s_class_of) (defScope s_class_of) [] [] f fd) : Cal P w K mg base "class_of" s_class_of 4 ["lot", "question", "place"] m_class_of :=
  ⟨f, fd, hm, F, mk_run (k := 3) F sc_class_of [false, false, false] F_class_of fun cdv A outer s H EE pin gd hr hp => ⟨_, (sb_one (ss_ret (se_call (K := K) c_class_by gd (hr.mono (by decide)) bd_class_by (sb0_cons (SO.fz (SE.o (se_call (K := K) c_bridges_of gd (hr.mono (by decide)) bd_bridges_of (sb0_cons (SO.fz (so_var 0)) (sb0_cons (SO.fz (so_var 1)) sb0_nil)) (len_cons (len_cons len_nil))))) (sb0_cons (SO.fz (so_var 2)) sb0_nil)) (len_cons (len_cons len_nil)))))⟩⟩
abbrev N_joined_to : List Str := ["lot", "question", "place"]
theorem sc_joined_to : FnScope N_joined_to ["lot", "question", "place"] (defScope s_joined_to) := ⟨rfl, rfl, rfl, by decide +kernel, rfl, by decide +kernel, by decide +kernel⟩
theorem bd_joined_to : BindT "joined_to" s_joined_to ["lot", "question", "place"] := fun _ _ _ _ _ _ us hl => match us, hl with | [_, _, _], _ => rfl
noncomputable def F_joined_to : Fs := (fSeq (fX (fCall m_want_question (fCons (fFz (fP 1)) fNil) [none])) (fSeq (fX (fCall m_want_place (fCons (fFz (fP 1)) (fCons (fFz (fP 2)) fNil)) [none, none])) (fRet (fCall m_class_of (fCons (fFz (fP 0)) (fCons (fFz (fP 1)) (fCons (fFz (fP 2)) fNil))) [none, none, none]))))
noncomputable def m_joined_to : Mir := runM [false, false, false] N_joined_to F_joined_to
theorem ok_joined_to {f : Addr} {fd : FuncData} (E : Env K mg) (c_class_of : Cal P w K mg base "class_of" s_class_of 4 ["lot", "question", "place"] m_class_of) (c_want_place : Cal P w K mg base "want_place" s_want_place 4 ["question", "value"] m_want_place) (c_want_question : Cal P w K mg base "want_question" s_want_question 3 ["value"] m_want_question) (hm : mg "joined_to" = some (.ref f)) (F : FunD K "joined_to" "joined_to" (defArgs s_joined_to) (defBody s_joined_to) (defScope s_joined_to) [] [] f fd) : Cal P w K mg base "joined_to" s_joined_to 5 ["lot", "question", "place"] m_joined_to :=
  ⟨f, fd, hm, F, mk_run (k := 4) F sc_joined_to [false, false, false] F_joined_to fun cdv A outer s H EE pin gd hr hp => ⟨_, (sb_cons (ss_expr (se_call (K := K) c_want_question gd (hr.mono (by decide)) bd_want_question (sb0_cons (SO.fz (so_var 1)) sb0_nil) (len_cons len_nil))) (sb_cons (ss_expr (se_call (K := K) c_want_place gd (hr.mono (by decide)) bd_want_place (sb0_cons (SO.fz (so_var 1)) (sb0_cons (SO.fz (so_var 2)) sb0_nil)) (len_cons (len_cons len_nil)))) (sb_one (ss_ret (se_call (K := K) c_class_of gd (hr.mono (by decide)) bd_class_of (sb0_cons (SO.fz (so_var 0)) (sb0_cons (SO.fz (so_var 1)) (sb0_cons (SO.fz (so_var 2)) sb0_nil))) (len_cons (len_cons (len_cons len_nil))))))))⟩⟩
abbrev N_bridges_at : List Str := ["lot", "question", "place", "bridge"]
theorem sc_bridges_at : FnScope N_bridges_at ["lot", "question", "place"] (defScope s_bridges_at) := ⟨rfl, rfl, rfl, by decide +kernel, rfl, by decide +kernel, by decide +kernel⟩
theorem bd_bridges_at : BindT "bridges_at" s_bridges_at ["lot", "question", "place"] := fun _ _ _ _ _ _ us hl => match us, hl with | [_, _, _], _ => rfl
noncomputable def F_bridges_at : Fs := (fSeq (fX (fCall m_want_question (fCons (fFz (fP 1)) fNil) [none])) (fSeq (fX (fCall m_want_place (fCons (fFz (fP 1)) (fCons (fFz (fP 2)) fNil)) [none, none])) (fRet (fLc [3] (fItS (fFz (fE (fCall m_bridges_of (fCons (fFz (fP 0)) (fCons (fFz (fP 1)) fNil)) [none, none])))) (gN 3) (fB (fBin gInQ (fP 2) (fE (fSl (fP 3) fNoPart (fPart (fC (.int 2))))))) (fFz (fP 3))))))
noncomputable def m_bridges_at : Mir := runM [false, false, false] N_bridges_at F_bridges_at
theorem ok_bridges_at {f : Addr} {fd : FuncData} (E : Env K mg) (c_bridges_of : Cal P w K mg base "bridges_of" s_bridges_of 3 ["lot", "question"] m_bridges_of) (c_want_place : Cal P w K mg base "want_place" s_want_place 4 ["question", "value"] m_want_place) (c_want_question : Cal P w K mg base "want_question" s_want_question 3 ["value"] m_want_question) (hm : mg "bridges_at" = some (.ref f)) (F : FunD K "bridges_at" "bridges_at" (defArgs s_bridges_at) (defBody s_bridges_at) (defScope s_bridges_at) [] [] f fd) : Cal P w K mg base "bridges_at" s_bridges_at 5 ["lot", "question", "place"] m_bridges_at :=
  ⟨f, fd, hm, F, mk_run (k := 4) F sc_bridges_at [false, false, false] F_bridges_at fun cdv A outer s H EE pin gd hr hp => ⟨_, (sb_cons (ss_expr (se_call (K := K) c_want_question gd (hr.mono (by decide)) bd_want_question (sb0_cons (SO.fz (so_var 1)) sb0_nil) (len_cons len_nil))) (sb_cons (ss_expr (se_call (K := K) c_want_place gd (hr.mono (by decide)) bd_want_place (sb0_cons (SO.fz (so_var 1)) (sb0_cons (SO.fz (so_var 2)) sb0_nil)) (len_cons (len_cons len_nil)))) (sb_one (ss_ret (se_lc (own := [("bridge", 3)]) rfl sc_bridges_at.nd (si_seq (K := K) (SO.fz (SE.o (se_call (K := K) c_bridges_of gd (hr.mono (by decide)) bd_bridges_of (sb0_cons (SO.fz (so_var 0)) (sb0_cons (SO.fz (so_var 1)) sb0_nil)) (len_cons (len_cons len_nil)))))) (blkOk_by (N := N_bridges_at) (sc := defScope s_bridges_at) (own := [("bridge", 3)]) (by decide +kernel)) (fun i hi => hp i (by revert i; decide)) (by decide) (fun _ _ _ _ _ => (sg_name sc_bridges_at.nd (hp 3 (by decide)))) (fun _ _ _ _ _ => (stl_one (st_cmp (r := rInQ K) (op_inQ (u65 hr)) rg_inQ (so_var 2) (SE.o (se_sl (K := K) (so_var 3) sp_none (sp_some (se_int)))) (by rfl)))) (fun _ _ _ _ _ => SO.fz (so_var 3)))))))⟩⟩
abbrev N_law_splits : List Str := ["_law_words_here", "_law_text", "_law_spots", "_law_end", "_law_word_here"]
theorem sc_law_splits : FnScope N_law_splits ["_law_words_here", "_law_text"] (defScope s_law_splits) := ⟨rfl, rfl, rfl, by decide +kernel, rfl, by decide +kernel, by decide +kernel⟩
theorem bd_law_splits : BindT "_law_splits" s_law_splits ["_law_words_here", "_law_text"] := fun _ _ _ _ _ _ us hl => match us, hl with | [_, _], _ => rfl
noncomputable def F_law_splits : Fs := (fSeq (fAsg (fLst (fCons (fC (.int 0)) fNil)) (gN 2)) (fSeq (fFor (fItR2 (fCons (fC (.int 1)) (fCons (fBin gAdd (fE (fUn gLen (fP 1))) (fE (fC (.int 1)))) fNil))) (gN 3) (fIfS (fB (fUn gAny (fE (fLc [4] (fItS (fFz (fP 0))) (gN 4) fYes (fFz (fE (fAndV (fBin gInQ (fE (fBin gSubI (fP 3) (fE (fUn gLen (fP 4))))) (fP 2)) (fBin gEq (fE (fSl (fE (fSl (fP 1) fNoPart (fPart (fFz (fP 3))))) (fPart (fUn gNeg (fE (fUn gLen (fP 4))))) fNoPart)) (fP 4))))))))) (fX (fAppend 2 (fFz (fP 3)))) fNext)) (fRet (fBin gInQ (fE (fUn gLen (fP 1))) (fP 2)))))
noncomputable def m_law_splits : Mir := runM [false, false] N_law_splits F_law_splits
theorem ok_law_splits {f : Addr} {fd : FuncData} (E : Env K mg) (hm : mg "_law_splits" = some (.ref f)) (F : FunD K "_law_splits" "_law_splits" (defArgs s_law_splits) (defBody s_law_splits) (defScope s_law_splits) [] [] f fd) : Cal P w K mg base "_law_splits" s_law_splits 1 ["_law_words_here", "_law_text"] m_law_splits :=
  ⟨f, fd, hm, F, mk_run (k := 0) F sc_law_splits [false, false] F_law_splits fun cdv A outer s H EE pin gd hr hp => ⟨_, (sb_cons (ss_set sc_law_splits.nd (hp 2 (by decide)) (se_list (sa_cons (se_int) sa_nil))) (sb_cons (ss_for PassesOwn.never rfl (si_rng2 E.n_range (sa_cons (se_int) (sa_cons (so_op op_addQ rg_addQ (SE.o (se_b1 (r := rLenQ K) call_lenQ rg_len E.n_len PySem.boot_len (so_var 1))) (SE.o (se_int))) sa_nil))) (sg_name sc_law_splits.nd (hp 3 (by decide))) (sb_one (ss_if (st_val (se_b1 (r := rAny K) (cr_any rfl) rg_any E.n_any (by decide +kernel) (SE.o (se_lc (own := [("_law_word_here", 4)]) rfl sc_law_splits.nd (si_seq (K := K) (SO.fz (so_var 0))) (blkOk_by (N := N_law_splits) (sc := defScope s_law_splits) (own := [("_law_word_here", 4)]) (by decide +kernel)) (fun i hi => hp i (by revert i; decide)) (by decide) (fun _ _ _ _ _ => (sg_name sc_law_splits.nd (hp 4 (by decide)))) (fun _ _ _ _ _ => stl_nil) (fun _ _ _ _ _ => SO.fz (SE.o (se_and (so_cmp (r := rInQ K) (op_inQ (u65 hr)) rg_inQ (SE.o (so_op op_sub rg_sub (so_var 3) (SE.o (se_b1 (r := rLenQ K) call_lenQ rg_len E.n_len PySem.boot_len (so_var 4))))) (so_var 2) (by rfl)) (se_one (so_cmp (r := rEqD K) (op_eqD (u64 hr)) rg_eq (SE.o (se_sl (K := K) (SE.o (se_sl (K := K) (so_var 1) sp_none (sp_some (SO.fz (so_var 3))))) (sp_some (so_un un_neg rg_neg (SE.o (se_b1 (r := rLenQ K) call_lenQ rg_len E.n_len PySem.boot_len (so_var 4))))) sp_none)) (so_var 4) (nomark _)))))))))) (sb_one (ss_expr (se_append (i := 2) (SO.fz (so_var 3))))) sb_nil))) (sb_one (ss_ret (so_cmp (r := rInQ K) (op_inQ (u65 hr)) rg_inQ (SE.o (se_b1 (r := rLenQ K) call_lenQ rg_len E.n_len PySem.boot_len (so_var 1))) (so_var 2) (by rfl))))))⟩⟩
abbrev N_law_goals : List Str := ["_law_words_here", "_law_question", "_law_place", "_law_end"]
theorem sc_law_goals : FnScope N_law_goals ["_law_words_here", "_law_question", "_law_place"] (defScope s_law_goals) := ⟨rfl, rfl, rfl, by decide +kernel, rfl, by decide +kernel, by decide +kernel⟩
theorem bd_law_goals : BindT "_law_goals" s_law_goals ["_law_words_here", "_law_question", "_law_place"] := fun _ _ _ _ _ _ us hl => match us, hl with | [_, _, _], _ => rfl
noncomputable def F_law_goals : Fs := (fRet (fLc [3] (fItR2 (fCons (fFz (fP 2)) (fCons (fBin gAdd (fE (fUn gLen (fP 1))) (fE (fC (.int 1)))) fNil))) (gN 3) (fB (fCall m_law_splits (fCons (fFz (fP 0)) (fCons (fFz (fE (fSl (fP 1) (fPart (fFz (fP 2))) (fPart (fFz (fP 3)))))) fNil)) [none, none])) (fFz (fP 3))))
noncomputable def m_law_goals : Mir := runM [false, false, false] N_law_goals F_law_goals
theorem ok_law_goals {f : Addr} {fd : FuncData} (E : Env K mg) (c_law_splits : Cal P w K mg base "_law_splits" s_law_splits 1 ["_law_words_here", "_law_text"] m_law_splits) (hm : mg "_law_goals" = some (.ref f)) (F : FunD K "_law_goals" "_law_goals" (defArgs s_law_goals) (defBody s_law_goals) (defScope s_law_goals) [] [] f fd) : Cal P w K mg base "_law_goals" s_law_goals 2 ["_law_words_here", "_law_question", "_law_place"] m_law_goals :=
  ⟨f, fd, hm, F, mk_run (k := 1) F sc_law_goals [false, false, false] F_law_goals fun cdv A outer s H EE pin gd hr hp => ⟨_, (sb_one (ss_ret (se_lc (own := [("_law_end", 3)]) rfl sc_law_goals.nd (si_rng2 E.n_range (sa_cons (SO.fz (so_var 2)) (sa_cons (so_op op_addQ rg_addQ (SE.o (se_b1 (r := rLenQ K) call_lenQ rg_len E.n_len PySem.boot_len (so_var 1))) (SE.o (se_int))) sa_nil))) (blkOk_by (N := N_law_goals) (sc := defScope s_law_goals) (own := [("_law_end", 3)]) (by decide +kernel)) (fun i hi => hp i (by revert i; decide)) (by decide) (fun _ _ _ _ _ => (sg_name sc_law_goals.nd (hp 3 (by decide)))) (fun _ _ _ _ _ => (stl_one (st_val (se_call (K := K) c_law_splits gd (hr.mono (by decide)) bd_law_splits (sb0_cons (SO.fz (so_var 0)) (sb0_cons (SO.fz (SE.o (se_sl (K := K) (so_var 1) (sp_some (SO.fz (so_var 2))) (sp_some (SO.fz (so_var 3)))))) sb0_nil)) (len_cons (len_cons len_nil)))))) (fun _ _ _ _ _ => SO.fz (so_var 3)))))⟩⟩
abbrev N_law_starts : List Str := ["_law_words_here", "_law_question", "_law_place", "_law_begin"]
theorem sc_law_starts : FnScope N_law_starts ["_law_words_here", "_law_question", "_law_place"] (defScope s_law_starts) := ⟨rfl, rfl, rfl, by decide +kernel, rfl, by decide +kernel, by decide +kernel⟩
theorem bd_law_starts : BindT "_law_starts" s_law_starts ["_law_words_here", "_law_question", "_law_place"] := fun _ _ _ _ _ _ us hl => match us, hl with | [_, _, _], _ => rfl
noncomputable def F_law_starts : Fs := (fRet (fLc [3] (fItR1 (fCons (fBin gAdd (fP 2) (fE (fC (.int 1)))) fNil)) (gN 3) (fB (fCall m_law_splits (fCons (fFz (fP 0)) (fCons (fFz (fE (fSl (fP 1) (fPart (fFz (fP 3))) (fPart (fFz (fP 2)))))) fNil)) [none, none])) (fFz (fP 3))))
noncomputable def m_law_starts : Mir := runM [false, false, false] N_law_starts F_law_starts
theorem ok_law_starts {f : Addr} {fd : FuncData} (E : Env K mg) (c_law_splits : Cal P w K mg base "_law_splits" s_law_splits 1 ["_law_words_here", "_law_text"] m_law_splits) (hm : mg "_law_starts" = some (.ref f)) (F : FunD K "_law_starts" "_law_starts" (defArgs s_law_starts) (defBody s_law_starts) (defScope s_law_starts) [] [] f fd) : Cal P w K mg base "_law_starts" s_law_starts 2 ["_law_words_here", "_law_question", "_law_place"] m_law_starts :=
  ⟨f, fd, hm, F, mk_run (k := 1) F sc_law_starts [false, false, false] F_law_starts fun cdv A outer s H EE pin gd hr hp => ⟨_, (sb_one (ss_ret (se_lc (own := [("_law_begin", 3)]) rfl sc_law_starts.nd (si_rng1 E.n_range (sa_cons (so_op op_addQ rg_addQ (so_var 2) (SE.o (se_int))) sa_nil)) (blkOk_by (N := N_law_starts) (sc := defScope s_law_starts) (own := [("_law_begin", 3)]) (by decide +kernel)) (fun i hi => hp i (by revert i; decide)) (by decide) (fun _ _ _ _ _ => (sg_name sc_law_starts.nd (hp 3 (by decide)))) (fun _ _ _ _ _ => (stl_one (st_val (se_call (K := K) c_law_splits gd (hr.mono (by decide)) bd_law_splits (sb0_cons (SO.fz (so_var 0)) (sb0_cons (SO.fz (SE.o (se_sl (K := K) (so_var 1) (sp_some (SO.fz (so_var 3))) (sp_some (SO.fz (so_var 2)))))) sb0_nil)) (len_cons (len_cons len_nil)))))) (fun _ _ _ _ _ => SO.fz (so_var 3)))))⟩⟩
abbrev N_law_place_right : List Str := ["_law_lot", "_law_words_here", "_law_question", "_law_place", "_law_goals_here", "_law_starts_here", "_law_told", "_law_near", "_law_goal", "_law_later", "_law_begin", "_law_end", "_law_word_here"]
theorem sc_law_place_right : FnScope N_law_place_right ["_law_lot", "_law_words_here", "_law_question", "_law_place"] (defScope s_law_place_right) := ⟨rfl, rfl, rfl, by decide +kernel, rfl, by decide +kernel, by decide +kernel⟩
theorem bd_law_place_right : BindT "_law_place_right" s_law_place_right ["_law_lot", "_law_words_here", "_law_question", "_law_place"] := fun _ _ _ _ _ _ us hl => match us, hl with | [_, _, _, _], _ => rfl
noncomputable def F_law_place_right : Fs := (fSeq (fPar (fCons (fCall m_law_goals (fCons (fFz (fP 1)) (fCons (fFz (fP 2)) (fCons (fFz (fP 3)) fNil))) [none, none, none]) (fCons (fCall m_law_starts (fCons (fFz (fP 1)) (fCons (fFz (fP 2)) (fCons (fFz (fP 3)) fNil))) [none, none, none]) fNil)) (gs2 4 5)) (fSeq (fAsg (fLst (fCons (fCall m_forth_from (fCons (fFz (fP 0)) (fCons (fFz (fP 2)) (fCons (fFz (fP 3)) fNil))) [none, none, none]) (fCons (fCallK m_forth_from [2, 1, 0] (fCons (fFz (fP 3)) (fCons (fFz (fP 2)) (fCons (fFz (fP 0)) fNil)))) fNil))) (gN 6)) (fSeq (fIfS (fOr (fB (fBin gNe (fP 6) (fE (fLst (fCons (fFz (fP 4)) (fCons (fFz (fP 4)) fNil)))))) (fNot (fB (fIsiAt 6 "list" (fC (.int 0)))))) (fRet (fC (.bl false))) fNext) (fSeq (fX (fAppAt 6 (fC (.int 0)) (fC (.int 99)))) (fSeq (fX (fClrAt 6 (fC (.int 1)))) (fSeq (fAsg (fLst (fCons (fCall m_forth_to (fCons (fFz (fP 0)) (fCons (fFz (fP 2)) (fCons (fFz (fP 3)) fNil))) [none, none, none]) (fCons (fCallK m_forth_to [2, 1, 0] (fCons (fFz (fP 3)) (fCons (fFz (fP 2)) (fCons (fFz (fP 0)) fNil)))) fNil))) (gN 6)) (fSeq (fIfS (fOr (fB (fBin gNe (fP 6) (fE (fLst (fCons (fFz (fP 5)) (fCons (fFz (fP 5)) fNil)))))) (fNot (fB (fIsiAt 6 "list" (fC (.int 0)))))) (fRet (fC (.bl false))) fNext) (fSeq (fX (fClrAt 6 (fC (.int 0)))) (fSeq (fIfS (fOr (fB (fBin gNe (fE (fCall m_forth_from (fCons (fFz (fP 0)) (fCons (fFz (fP 2)) (fCons (fFz (fP 3)) fNil))) [none, none, none])) (fP 4))) (fB (fBin gNe (fE (fCall m_forth_to (fCons (fFz (fP 0)) (fCons (fFz (fP 2)) (fCons (fFz (fP 3)) fNil))) [none, none, none])) (fP 5)))) (fRet (fC (.bl false))) fNext) (fSeq (fAsg (fCall m_joined_to (fCons (fFz (fP 0)) (fCons (fFz (fP 2)) (fCons (fFz (fP 3)) fNil))) [none, none, none]) (gN 7)) (fSeq (fIfS (fNot (fB (fUn gAll (fE (fLc [8] (fItS (fFz (fE (fBin gAdd (fP 4) (fP 5))))) (gN 8) fYes (fBin gInQ (fP 8) (fP 7))))))) (fRet (fC (.bl false))) fNext) (fSeq (fAsg (fLst (fCons (fFz (fP 3)) fNil)) (gN 9)) (fSeq (fFor (fItS (fFz (fE (fCall m_bridges_at (fCons (fFz (fP 0)) (fCons (fFz (fP 2)) (fCons (fFz (fP 3)) fNil))) [none, none, none])))) (gT 3 (gsCons (gN 10) (gsCons (gN 11) (gsCons (gN 12) gsNil)))) (fIfS (fB (fBin gEq (fP 10) (fP 3))) (fAsg (fBin gAdd (fP 9) (fE (fCall m_forth_from (fCons (fFz (fP 0)) (fCons (fFz (fP 2)) (fCons (fFz (fP 11)) fNil))) [none, none, none]))) (gN 9)) fNext)) (fRet (fBin gEq (fE (fUn gSortSet2 (fP 9))) (fP 4))))))))))))))))
noncomputable def m_law_place_right : Mir := runM [false, false, false, false] N_law_place_right F_law_place_right
theorem ok_law_place_right {f : Addr} {fd : FuncData} (E : Env K mg) (c_bridges_at : Cal P w K mg base "bridges_at" s_bridges_at 5 ["lot", "question", "place"] m_bridges_at) (c_forth_from : Cal P w K mg base "forth_from" s_forth_from 5 ["lot", "question", "place"] m_forth_from) (c_joined_to : Cal P w K mg base "joined_to" s_joined_to 5 ["lot", "question", "place"] m_joined_to) (c_forth_to : Cal P w K mg base "forth_to" s_forth_to 5 ["lot", "question", "place"] m_forth_to) (c_law_starts : Cal P w K mg base "_law_starts" s_law_starts 2 ["_law_words_here", "_law_question", "_law_place"] m_law_starts) (c_law_goals : Cal P w K mg base "_law_goals" s_law_goals 2 ["_law_words_here", "_law_question", "_law_place"] m_law_goals) (hm : mg "_law_place_right" = some (.ref f)) (F : FunD K "_law_place_right" "_law_place_right" (defArgs s_law_place_right) (defBody s_law_place_right) (defScope s_law_place_right) [] [] f fd) : Cal P w K mg base "_law_place_right" s_law_place_right 6 ["_law_lot", "_law_words_here", "_law_question", "_law_place"] m_law_place_right :=
  ⟨f, fd, hm, F, mk_run (k := 5) F sc_law_place_right [false, false, false, false] F_law_place_right fun cdv A outer s H EE pin gd hr hp => ⟨_, (sb_cons (ss_par2 (i := 4) (j := 5) rfl sc_law_place_right.nd (hp 4 (by decide)) (hp 5 (by decide)) (by decide) (sa_cons (se_call (K := K) c_law_goals gd (hr.mono (by decide)) bd_law_goals (sb0_cons (SO.fz (so_var 1)) (sb0_cons (SO.fz (so_var 2)) (sb0_cons (SO.fz (so_var 3)) sb0_nil))) (len_cons (len_cons (len_cons len_nil)))) (sa_cons (se_call (K := K) c_law_starts gd (hr.mono (by decide)) bd_law_starts (sb0_cons (SO.fz (so_var 1)) (sb0_cons (SO.fz (so_var 2)) (sb0_cons (SO.fz (so_var 3)) sb0_nil))) (len_cons (len_cons (len_cons len_nil)))) sa_nil))) (sb_cons (ss_set sc_law_place_right.nd (hp 6 (by decide)) (se_list (sa_cons (se_call (K := K) c_forth_from gd (hr.mono (by decide)) bd_forth_from (sb0_cons (SO.fz (so_var 0)) (sb0_cons (SO.fz (so_var 2)) (sb0_cons (SO.fz (so_var 3)) sb0_nil))) (len_cons (len_cons (len_cons len_nil)))) (sa_cons (se_callK (K := K) c_forth_from gd (hr.mono (by decide)) (kb_mk (ks := ["place", "question", "lot"]) (π := [2, 1, 0]) (by decide) (fun _ _ _ _ _ _ ws hl => match ws, hl with | [_, _, _], _ => rfl)) (sk_cons (SO.fz (so_var 3)) (sk_cons (SO.fz (so_var 2)) (sk_cons (SO.fz (so_var 0)) sk_nil))) (len_cons (len_cons (len_cons len_nil))) (by decide)) sa_nil)))) (sb_cons (ss_if (SW.st (sw_or (st_cmp (r := rNeD K) (op_neD (u64 hr)) rg_ne (so_var 6) (SE.o (se_list (sa_cons (SO.fz (so_var 4)) (sa_cons (SO.fz (so_var 4)) sa_nil)))) (nomark _)) (sw_or1 (st_not (st_val (se_isiAt (i := 6) (n := "list") (T := "list") E.n_isinstance E.n_list (by decide +kernel) (se_int))))))) (sb_one (ss_ret (se_bl))) sb_nil) (sb_cons (ss_expr (se_appAt (i := 6) (se_int) (se_int))) (sb_cons (ss_expr (se_clrAt (i := 6) (se_int))) (sb_cons (ss_set sc_law_place_right.nd (hp 6 (by decide)) (se_list (sa_cons (se_call (K := K) c_forth_to gd (hr.mono (by decide)) bd_forth_to (sb0_cons (SO.fz (so_var 0)) (sb0_cons (SO.fz (so_var 2)) (sb0_cons (SO.fz (so_var 3)) sb0_nil))) (len_cons (len_cons (len_cons len_nil)))) (sa_cons (se_callK (K := K) c_forth_to gd (hr.mono (by decide)) (kb_mk (ks := ["place", "question", "lot"]) (π := [2, 1, 0]) (by decide) (fun _ _ _ _ _ _ ws hl => match ws, hl with | [_, _, _], _ => rfl)) (sk_cons (SO.fz (so_var 3)) (sk_cons (SO.fz (so_var 2)) (sk_cons (SO.fz (so_var 0)) sk_nil))) (len_cons (len_cons (len_cons len_nil))) (by decide)) sa_nil)))) (sb_cons (ss_if (SW.st (sw_or (st_cmp (r := rNeD K) (op_neD (u64 hr)) rg_ne (so_var 6) (SE.o (se_list (sa_cons (SO.fz (so_var 5)) (sa_cons (SO.fz (so_var 5)) sa_nil)))) (nomark _)) (sw_or1 (st_not (st_val (se_isiAt (i := 6) (n := "list") (T := "list") E.n_isinstance E.n_list (by decide +kernel) (se_int))))))) (sb_one (ss_ret (se_bl))) sb_nil) (sb_cons (ss_expr (se_clrAt (i := 6) (se_int))) (sb_cons (ss_if (SW.st (sw_or (st_cmp (r := rNeD K) (op_neD (u64 hr)) rg_ne (SE.o (se_call (K := K) c_forth_from gd (hr.mono (by decide)) bd_forth_from (sb0_cons (SO.fz (so_var 0)) (sb0_cons (SO.fz (so_var 2)) (sb0_cons (SO.fz (so_var 3)) sb0_nil))) (len_cons (len_cons (len_cons len_nil))))) (so_var 4) (nomark _)) (sw_or1 (st_cmp (r := rNeD K) (op_neD (u64 hr)) rg_ne (SE.o (se_call (K := K) c_forth_to gd (hr.mono (by decide)) bd_forth_to (sb0_cons (SO.fz (so_var 0)) (sb0_cons (SO.fz (so_var 2)) (sb0_cons (SO.fz (so_var 3)) sb0_nil))) (len_cons (len_cons (len_cons len_nil))))) (so_var 5) (nomark _))))) (sb_one (ss_ret (se_bl))) sb_nil) (sb_cons (ss_set sc_law_place_right.nd (hp 7 (by decide)) (se_call (K := K) c_joined_to gd (hr.mono (by decide)) bd_joined_to (sb0_cons (SO.fz (so_var 0)) (sb0_cons (SO.fz (so_var 2)) (sb0_cons (SO.fz (so_var 3)) sb0_nil))) (len_cons (len_cons (len_cons len_nil))))) (sb_cons (ss_if (st_not (st_val (se_b1 (r := rAll K) (cr_all rfl) rg_all E.n_all (by decide +kernel) (SE.o (se_lc (own := [("_law_goal", 8)]) rfl sc_law_place_right.nd (si_seq (K := K) (SO.fz (SE.o (so_op op_addQ rg_addQ (so_var 4) (so_var 5))))) (blkOk_by (N := N_law_place_right) (sc := defScope s_law_place_right) (own := [("_law_goal", 8)]) (by decide +kernel)) (fun i hi => hp i (by revert i; decide)) (by decide) (fun _ _ _ _ _ => (sg_name sc_law_place_right.nd (hp 8 (by decide)))) (fun _ _ _ _ _ => stl_nil) (fun _ _ _ _ _ => so_cmp (r := rInQ K) (op_inQ (u65 hr)) rg_inQ (so_var 8) (so_var 7) (by rfl))))))) (sb_one (ss_ret (se_bl))) sb_nil) (sb_cons (ss_set sc_law_place_right.nd (hp 9 (by decide)) (se_list (sa_cons (SO.fz (so_var 3)) sa_nil))) (sb_cons (ss_for PassesOwn.never rfl (si_seq (K := K) (SO.fz (SE.o (se_call (K := K) c_bridges_at gd (hr.mono (by decide)) bd_bridges_at (sb0_cons (SO.fz (so_var 0)) (sb0_cons (SO.fz (so_var 2)) (sb0_cons (SO.fz (so_var 3)) sb0_nil))) (len_cons (len_cons (len_cons len_nil))))))) (sg_tup (K := K) rfl (sgs_cons (sg_name sc_law_place_right.nd (hp 10 (by decide))) (sgs_cons (sg_name sc_law_place_right.nd (hp 11 (by decide))) (sgs_cons (sg_name sc_law_place_right.nd (hp 12 (by decide))) sgs_nil)))) (sb_one (ss_if (st_cmp (r := rEqD K) (op_eqD (u64 hr)) rg_eq (so_var 10) (so_var 3) (nomark _)) (sb_one (ss_set sc_law_place_right.nd (hp 9 (by decide)) (so_op op_addQ rg_addQ (so_var 9) (SE.o (se_call (K := K) c_forth_from gd (hr.mono (by decide)) bd_forth_from (sb0_cons (SO.fz (so_var 0)) (sb0_cons (SO.fz (so_var 2)) (sb0_cons (SO.fz (so_var 11)) sb0_nil))) (len_cons (len_cons (len_cons len_nil)))))))) sb_nil))) (sb_one (ss_ret (so_cmp (r := rEqD K) (op_eqD (u64 hr)) rg_eq (SE.o (se_sortSet2 rfl E.n_sorted E.n_set (so_var 9))) (so_var 4) (nomark _)))))))))))))))))⟩⟩
abbrev N_law_right : List Str := ["_law_pot_here", "_law_letters", "_law_words_here", "_law_lot", "_law_turn", "_law_question", "_law_part", "_law_place"]
theorem sc_law_right : FnScope N_law_right ["_law_pot_here"] (defScope s_law_right) := ⟨rfl, rfl, rfl, by decide +kernel, rfl, by decide +kernel, by decide +kernel⟩
theorem bd_law_right : BindT "_law_right" s_law_right ["_law_pot_here"] := fun _ _ _ _ _ _ us hl => match us, hl with | [_], _ => rfl
noncomputable def F_law_right : Fs := (fSeq (fAsg (fCall m_law_pick (fLend 0 (fCons (fFz (fE (fLst (fCons (fC (.str "a")) (fCons (fC (.str "ab")) (fCons (fC (.str "ab")) (fCons (fC (.str "abc")) fNil))))))) fNil)) [some 0, none]) (gN 1)) (fSeq (fAsg (fCall m_law_words (fLend 0 (fCons (fFz (fE (fCall m_law_word (fLend 0 (fCons (fFz (fP 1)) (fCons (fC (.int 9)) fNil))) [some 0, none, none]))) (fCons (fC (.int 6)) (fCons (fC (.int 3)) fNil)))) [some 0, none, none, none]) (gN 2)) (fSeq (fAsg (fMake "Lot" m_Lot_init (fCons (fFz (fP 2)) fNil) [none]) (gN 3)) (fSeq (fFor (fItR1 (fCons (fC (.int 4)) fNil)) (gN 4) (fSeq (fAsg (fCall m_law_word (fLend 0 (fCons (fFz (fP 1)) (fCons (fC (.int 12)) fNil))) [some 0, none, none]) (gN 5)) (fSeq (fIfS (fAnd (fB (fBin gGt (fP 4) (fE (fC (.int 0))))) (fB (fBin gNe (fP 2) (fE (fLst fNil))))) (fAsg (fSl (fE (fBin gJoin (fE (fC (.str ""))) (fE (fLc [6] (fItR1 (fCons (fBin gAdd (fE (fC (.int 1))) (fE (fCall m_law_draw (fLend 0 (fCons (fC (.int 5)) fNil)) [some 0, none]))) fNil)) (gN 6) fYes (fFz (fE (fCall m_law_pick (fLend 0 (fCons (fFz (fP 2)) fNil)) [some 0, none]))))))) (fPart (fCall m_law_draw (fLend 0 (fCons (fC (.int 2)) fNil)) [some 0, none])) fNoPart) (gN 5)) fNext) (fSeq (fIfS (fB (fBin gEq (fP 4) (fE (fC (.int 3))))) (fAsg (fSl (fE (fBin gAdd (fP 5) (fE (fBin gMulQ (fE (fCall m_law_word (fLend 0 (fCons (fFz (fP 1)) (fCons (fC (.int 24)) fNil))) [some 0, none, none])) (fE (fC (.int 24))))))) fNoPart (fPart (fC (.int 24)))) (gN 5)) fNext) (fIfS (fB (fBin gNe (fP 5) (fE (fC (.str ""))))) (fSeq (fIfS (fNot (fB (fUn gAll (fE (fLc [7] (fItR1 (fCons (fBin gAdd (fE (fUn gLen (fP 5))) (fE (fC (.int 1)))) fNil)) (gN 7) fYes (fFz (fE (fCall m_law_place_right (fCons (fFz (fP 3)) (fCons (fFz (fP 2)) (fCons (fFz (fP 5)) (fCons (fFz (fP 7)) fNil)))) [none, none, none, none])))))))) (fRet (fC (.bl false))) fNext) (fIfS (fNot (fB (fCall m_law_further_right (fLend 0 (fCons (fFz (fP 3)) (fCons (fFz (fP 5)) fNil))) [some 0, none, none]))) (fRet (fC (.bl false))) fNext)) fNext))))) (fRet (fBin (gOwnEq "Lot" m_Lot_eq) (fP 3) (fE (fMake "Lot" m_Lot_init (fCons (fFz (fP 2)) fNil) [none]))))))))
noncomputable def m_law_right : Mir := runM [true] N_law_right F_law_right
theorem ok_law_right {f : Addr} {fd : FuncData} (E : Env K mg) (c_Lot_eq : CalM P w K mg base "Lot" "__eq__" 1 ["self", "other"] m_Lot_eq) (c_Lot_init : CalM P w K mg base "Lot" "__init__" 3 ["self", "words"] m_Lot_init) (c_law_further_right : Cal P w K mg base "_law_further_right" s_law_further_right 6 ["_law_pot_here", "_law_lot", "_law_question"] m_law_further_right) (c_law_place_right : Cal P w K mg base "_law_place_right" s_law_place_right 6 ["_law_lot", "_law_words_here", "_law_question", "_law_place"] m_law_place_right) (c_law_word : Cal P w K mg base "_law_word" s_law_word 3 ["_law_pot_here", "_law_letters", "_law_most"] m_law_word) (c_law_draw : Cal P w K mg base "_law_draw" s_law_draw 1 ["_law_pot_here", "_law_many"] m_law_draw) (c_law_pick : Cal P w K mg base "_law_pick" s_law_pick 2 ["_law_pot_here", "_law_some"] m_law_pick) (c_law_words : Cal P w K mg base "_law_words" s_law_words 4 ["_law_pot_here", "_law_question", "_law_many", "_law_most"] m_law_words) (hm : mg "_law_right" = some (.ref f)) (F : FunD K "_law_right" "_law_right" (defArgs s_law_right) (defBody s_law_right) (defScope s_law_right) [] [] f fd) : Cal P w K mg base "_law_right" s_law_right 7 ["_law_pot_here"] m_law_right :=
  ⟨f, fd, hm, F, mk_run (k := 6) F sc_law_right [true] F_law_right fun cdv A outer s H EE pin gd hr hp => ⟨_, (sb_cons (ss_set sc_law_right.nd (hp 1 (by decide)) (se_call (K := K) c_law_pick gd (hr.mono (by decide)) bd_law_pick (sb0_lend 0 (sb0_cons (SO.fz (SE.o (se_list (sa_cons (se_str) (sa_cons (se_str) (sa_cons (se_str) (sa_cons (se_str) sa_nil))))))) sb0_nil)) (len_lend (len_cons len_nil)))) (sb_cons (ss_set sc_law_right.nd (hp 2 (by decide)) (se_call (K := K) c_law_words gd (hr.mono (by decide)) bd_law_words (sb0_lend 0 (sb0_cons (SO.fz (SE.o (se_call (K := K) c_law_word gd (hr.mono (by decide)) bd_law_word (sb0_lend 0 (sb0_cons (SO.fz (so_var 1)) (sb0_cons (se_int) sb0_nil))) (len_lend (len_cons (len_cons len_nil)))))) (sb0_cons (se_int) (sb0_cons (se_int) sb0_nil)))) (len_lend (len_cons (len_cons (len_cons len_nil)))))) (sb_cons (ss_set sc_law_right.nd (hp 3 (by decide)) (se_make (K := K) E.mk_Lot c_Lot_init gd (hr.mono (by decide)) (sb0_cons (SO.fz (so_var 2)) sb0_nil) (len_succ (len_cons len_nil)))) (sb_cons (ss_for PassesOwn.never rfl (si_rng1 E.n_range (sa_cons (se_int) sa_nil)) (sg_name sc_law_right.nd (hp 4 (by decide))) (sb_cons (ss_set sc_law_right.nd (hp 5 (by decide)) (se_call (K := K) c_law_word gd (hr.mono (by decide)) bd_law_word (sb0_lend 0 (sb0_cons (SO.fz (so_var 1)) (sb0_cons (se_int) sb0_nil))) (len_lend (len_cons (len_cons len_nil))))) (sb_cons (ss_if (SW.st (sw_and (st_cmp op_gt rg_gt (so_var 4) (SE.o (se_int)) (nomark _)) (sw_and1 (st_cmp (r := rNeD K) (op_neD (u64 hr)) rg_ne (so_var 2) (SE.o (se_list sa_nil)) (nomark _))))) (sb_one (ss_set sc_law_right.nd (hp 5 (by decide)) (se_sl (K := K) (SE.o (se_join (K := K) (SE.o (se_str)) (SE.o (se_lc (own := [("_law_part", 6)]) rfl sc_law_right.nd (si_rng1 E.n_range (sa_cons (so_op op_addQ rg_addQ (SE.o (se_int)) (SE.o (se_call (K := K) c_law_draw gd (hr.mono (by decide)) bd_law_draw (sb0_lend 0 (sb0_cons (se_int) sb0_nil)) (len_lend (len_cons len_nil))))) sa_nil)) (blkOk_by (N := N_law_right) (sc := defScope s_law_right) (own := [("_law_part", 6)]) (by decide +kernel)) (fun i hi => hp i (by revert i; decide)) (by decide) (fun _ _ _ _ _ => (sg_name sc_law_right.nd (hp 6 (by decide)))) (fun _ _ _ _ _ => stl_nil) (fun _ _ _ _ _ => SO.fz (SE.o (se_call (K := K) c_law_pick gd (hr.mono (by decide)) bd_law_pick (sb0_lend 0 (sb0_cons (SO.fz (so_var 2)) sb0_nil)) (len_lend (len_cons len_nil))))))))) (sp_some (se_call (K := K) c_law_draw gd (hr.mono (by decide)) bd_law_draw (sb0_lend 0 (sb0_cons (se_int) sb0_nil)) (len_lend (len_cons len_nil)))) sp_none))) sb_nil) (sb_cons (ss_if (st_cmp (r := rEqD K) (op_eqD (u64 hr)) rg_eq (so_var 4) (SE.o (se_int)) (nomark _)) (sb_one (ss_set sc_law_right.nd (hp 5 (by decide)) (se_sl (K := K) (SE.o (so_op op_addQ rg_addQ (so_var 5) (SE.o (so_op op_mulQ rg_mulQ (SE.o (se_call (K := K) c_law_word gd (hr.mono (by decide)) bd_law_word (sb0_lend 0 (sb0_cons (SO.fz (so_var 1)) (sb0_cons (se_int) sb0_nil))) (len_lend (len_cons (len_cons len_nil))))) (SE.o (se_int)))))) sp_none (sp_some (se_int))))) sb_nil) (sb_one (ss_if (st_cmp (r := rNeD K) (op_neD (u64 hr)) rg_ne (so_var 5) (SE.o (se_str)) (nomark _)) (sb_cons (ss_if (st_not (st_val (se_b1 (r := rAll K) (cr_all rfl) rg_all E.n_all (by decide +kernel) (SE.o (se_lc (own := [("_law_place", 7)]) rfl sc_law_right.nd (si_rng1 E.n_range (sa_cons (so_op op_addQ rg_addQ (SE.o (se_b1 (r := rLenQ K) call_lenQ rg_len E.n_len PySem.boot_len (so_var 5))) (SE.o (se_int))) sa_nil)) (blkOk_by (N := N_law_right) (sc := defScope s_law_right) (own := [("_law_place", 7)]) (by decide +kernel)) (fun i hi => hp i (by revert i; decide)) (by decide) (fun _ _ _ _ _ => (sg_name sc_law_right.nd (hp 7 (by decide)))) (fun _ _ _ _ _ => stl_nil) (fun _ _ _ _ _ => SO.fz (SE.o (se_call (K := K) c_law_place_right gd (hr.mono (by decide)) bd_law_place_right (sb0_cons (SO.fz (so_var 3)) (sb0_cons (SO.fz (so_var 2)) (sb0_cons (SO.fz (so_var 5)) (sb0_cons (SO.fz (so_var 7)) sb0_nil)))) (len_cons (len_cons (len_cons (len_cons len_nil)))))))))))) (sb_one (ss_ret (se_bl))) sb_nil) (sb_one (ss_if (st_not (st_val (se_call (K := K) c_law_further_right gd (hr.mono (by decide)) bd_law_further_right (sb0_lend 0 (sb0_cons (SO.fz (so_var 3)) (sb0_cons (SO.fz (so_var 5)) sb0_nil))) (len_lend (len_cons (len_cons len_nil)))))) (sb_one (ss_ret (se_bl))) sb_nil))) sb_nil)))))) (sb_one (ss_ret (so_cmp (op_ownEq c_Lot_eq gd (hr.mono (by decide))) rg_ownEq (so_var 3) (SE.o (se_make (K := K) E.mk_Lot c_Lot_init gd (hr.mono (by decide)) (sb0_cons (SO.fz (so_var 2)) sb0_nil) (len_succ (len_cons len_nil)))) (nomark _))))))))⟩⟩
abbrev N_law_pot : List Str := ["_law_script", "_law_k", "_law_start"]
theorem sc_law_pot : FnScope N_law_pot ["_law_script", "_law_k"] (defScope s_law_pot) := ⟨rfl, rfl, rfl, by decide +kernel, rfl, by decide +kernel, by decide +kernel⟩
theorem bd_law_pot : BindT "_law_pot" s_law_pot ["_law_script", "_law_k"] := fun _ _ _ _ _ _ us hl => match us, hl with | [_, _], _ => rfl
noncomputable def F_law_pot : Fs := (fSeq (fAsg (fBin gAdd (fE (fBin gMul (fE (fC (.int 199))) (fP 1))) (fE (fC (.int 79)))) (gN 2)) (fSeq (fIfS (fB (fBin gLt (fP 1) (fE (fUn gLen (fP 0))))) (fAsg (fUn gAbs (fE (fBin gIx (fP 0) (fP 1)))) (gN 2)) fNext) (fRet (fLst (fCons (fBin gMax2 (fE (fC (.int 0))) (fE (fBin gSubI (fP 2) (fE (fBin gPow (fE (fC (.int 10))) (fE (fC (.int 18)))))))) (fCons (fBin gAdd (fE (fBin gMod (fE (fUn gInt (fE (fBin gAdd (fE (fBin gAdd (fE (fBin gMul (fE (fBin gMod (fE (fUn gInt (fP 2))) (fE (fC (.int 2147483587))))) (fE (fC (.int 48271))))) (fE (fBin gMul (fE (fC (.int 8053))) (fP 1))))) (fE (fC (.int 89))))))) (fE (fC (.int 2147483629))))) (fE (fC (.int 1)))) fNil))))))
noncomputable def m_law_pot : Mir := runM [false, false] N_law_pot F_law_pot
theorem ok_law_pot {f : Addr} {fd : FuncData} (E : Env K mg) (hm : mg "_law_pot" = some (.ref f)) (F : FunD K "_law_pot" "_law_pot" (defArgs s_law_pot) (defBody s_law_pot) (defScope s_law_pot) [] [] f fd) : Cal P w K mg base "_law_pot" s_law_pot 1 ["_law_script", "_law_k"] m_law_pot :=
  ⟨f, fd, hm, F, mk_run (k := 0) F sc_law_pot [false, false] F_law_pot fun cdv A outer s H EE pin gd hr hp => ⟨_, (sb_cons (ss_set sc_law_pot.nd (hp 2 (by decide)) (so_op op_addQ rg_addQ (SE.o (so_op op_mul rg_mul (SE.o (se_int)) (so_var 1))) (SE.o (se_int)))) (sb_cons (ss_if (st_cmp (r := rLtQ K) (op_ltQ (u0 hr)) rg_ltQ (so_var 1) (SE.o (se_b1 (r := rLenQ K) call_lenQ rg_len E.n_len PySem.boot_len (so_var 0))) (nomark _)) (sb_one (ss_set sc_law_pot.nd (hp 2 (by decide)) (se_b1 call_abs rg_abs E.n_abs (by decide +kernel) (SE.o (se_ix (K := K) (so_var 0) (so_var 1)))))) sb_nil) (sb_one (ss_ret (se_list (sa_cons (se_b2 (call_max2 rfl) rg_max2 E.n_max (by decide +kernel) (SE.o (se_int)) (SE.o (so_op op_sub rg_sub (so_var 2) (SE.o (so_op op_pow rg_pow (SE.o (se_int)) (SE.o (se_int))))))) (sa_cons (so_op op_addQ rg_addQ (SE.o (so_op op_mod rg_mod (SE.o (se_t1 call_int1 rg_int E.n_int (by decide +kernel) (SE.o (so_op op_addQ rg_addQ (SE.o (so_op op_addQ rg_addQ (SE.o (so_op op_mul rg_mul (SE.o (so_op op_mod rg_mod (SE.o (se_t1 call_int1 rg_int E.n_int (by decide +kernel) (so_var 2))) (SE.o (se_int)))) (SE.o (se_int)))) (SE.o (so_op op_mul rg_mul (SE.o (se_int)) (so_var 1))))) (SE.o (se_int)))))) (SE.o (se_int)))) (SE.o (se_int))) sa_nil)))))))⟩⟩
abbrev N_law : List Str := ["_law_script", "_law_k"]
theorem sc_law : FnScope N_law ["_law_script"] (defScope s_law) := ⟨rfl, rfl, rfl, by decide +kernel, rfl, by decide +kernel, by decide +kernel⟩
theorem bd_law : BindT "law" s_law ["_law_script"] := fun _ _ _ _ _ _ us hl => match us, hl with | [_], _ => rfl
noncomputable def F_law : Fs := (fRet (fUn gAll (fE (fLc [1] (fItR1 (fCons (fBin gMax2 (fE (fC (.int 1))) (fE (fBin gMin2 (fE (fC (.int 3))) (fE (fUn gLen (fP 0)))))) fNil)) (gN 1) fYes (fFz (fE (fCall m_law_right (fCons (fCall m_law_pot (fCons (fFz (fP 0)) (fCons (fFz (fP 1)) fNil)) [none, none]) fNil) [none])))))))
noncomputable def m_law : Mir := runM [false] N_law F_law
theorem ok_law {f : Addr} {fd : FuncData} (E : Env K mg) (c_law_right : Cal P w K mg base "_law_right" s_law_right 7 ["_law_pot_here"] m_law_right) (c_law_pot : Cal P w K mg base "_law_pot" s_law_pot 1 ["_law_script", "_law_k"] m_law_pot) (hm : mg "law" = some (.ref f)) (F : FunD K "law" "law" (defArgs s_law) (defBody s_law) (defScope s_law) [] [] f fd) : Cal P w K mg base "law" s_law 8 ["_law_script"] m_law :=
  ⟨f, fd, hm, F, mk_run (k := 7) F sc_law [false] F_law fun cdv A outer s H EE pin gd hr hp => ⟨_, (sb_one (ss_ret (se_b1 (r := rAll K) (cr_all rfl) rg_all E.n_all (by decide +kernel) (SE.o (se_lc (own := [("_law_k", 1)]) rfl sc_law.nd (si_rng1 E.n_range (sa_cons (se_b2 (call_max2 rfl) rg_max2 E.n_max (by decide +kernel) (SE.o (se_int)) (SE.o (se_b2 (call_min2 rfl) rg_min2 E.n_min (by decide +kernel) (SE.o (se_int)) (SE.o (se_b1 (r := rLenQ K) call_lenQ rg_len E.n_len PySem.boot_len (so_var 0)))))) sa_nil)) (blkOk_by (N := N_law) (sc := defScope s_law) (own := [("_law_k", 1)]) (by decide +kernel)) (fun i hi => hp i (by revert i; decide)) (by decide) (fun _ _ _ _ _ => (sg_name sc_law.nd (hp 1 (by decide)))) (fun _ _ _ _ _ => stl_nil) (fun _ _ _ _ _ => SO.fz (SE.o (se_call (K := K) c_law_right gd (hr.mono (by decide)) bd_law_right (sb0_cons (se_call (K := K) c_law_pot gd (hr.mono (by decide)) bd_law_pot (sb0_cons (SO.fz (so_var 0)) (sb0_cons (SO.fz (so_var 1)) sb0_nil)) (len_cons (len_cons len_nil))) sb0_nil) (len_cons len_nil)))))))))⟩⟩
end
end Lw
set_option Elab.async false
set_option linter.all false
set_option maxRecDepth 100000
set_option maxHeartbeats 400000
namespace Lw
open PySem L2 Qy
abbrev pot (p q : Int) : OD := .ol [.st (.int p), .st (.int q)]
def PotOk (o : OD) : Prop := ∃ p q : Int, o = pot p q ∧ 0 ≤ p ∧ 0 ≤ q ∧ q < 4294967296
theorem draw_ok {o : OD} {n : Int} (h : PotOk o) (hn : 0 < n) (hn2 : n < 1073741824) : ∃ d o', m_law_draw [o, .st (.int n)] = some (.st (.int d), [some o', none]) ∧ 0 ≤ d ∧ d < n ∧ PotOk o' := by
  obtain ⟨p, q, rfl, hp, hq, hq2⟩ := h
  have e1 : atI [D.int p, D.int q] 0 = some (.int p) := by rfl
  have e2 : atI [D.int p, D.int q] 1 = some (.int q) := by rfl
  by_cases hp0 : 0 < p
  · refine ⟨p % n, pot (p / n) q, ?_, Int.emod_nonneg _ (by omega), Int.emod_lt_of_pos _ hn, p / n, q, rfl, Int.ediv_nonneg hp (by omega), hq, hq2⟩
    simp [runM, rho0, outsOf, fSeq, fRet, fAsg, gN, fFz, fPeek, fBack, fDrop, fBin, fUn, fC, fCons, fNil, fLend, fCall, putBack, fIfS, fB, fNot, fAnd, fOr, fAndV, fOrV, fNext, fIf, fX, fLst, fTup, fMov, fPar, gs2, gs3, gT, gsCons, gsNil, gAdd_i, gLt_i, gSub_i, gMul_i, gDiv_i, gMod_i, gGt_i, gLe_i, gGe_i, gInt_i, gNeg_i, gAbs_i, gMax_i, gMin_i, gPow_i, gSetI, gDivmod, gIx, OD.rd, OD.val, stAll, gLen, fItS, fItR1, fFor, fLc, wipeR, fPart, fNoPart, fSl, -List.map_map,m_law_draw, F_law_draw, pot, e1, hp0, hn, hn2, ixN]
  · have q1 : 0 ≤ (q * 48271 + 8142) % 2147483629 := Int.emod_nonneg _ (by omega)
    have q2 : (q * 48271 + 8142) % 2147483629 < 2147483629 := Int.emod_lt_of_pos _ (by omega)
    have e3 : atI [D.int p, D.int ((q * 48271 + 8142) % 2147483629)] 1 = some (.int ((q * 48271 + 8142) % 2147483629)) := by rfl
    refine ⟨((q * 48271 + 8142) % 2147483629 * ((q * 48271 + 8142) % 2147483629)) % 2147483549 / 13 % n, pot p ((q * 48271 + 8142) % 2147483629), ?_, Int.emod_nonneg _ (by omega), Int.emod_lt_of_pos _ hn, p, _, rfl, hp, q1, by omega⟩
    have c1 : (-18446744073709551616 < (q * 48271 + 8142) % 2147483629 ∧ (q * 48271 + 8142) % 2147483629 < 18446744073709551616) := by omega
    simp [runM, rho0, outsOf, fSeq, fRet, fAsg, gN, fFz, fPeek, fBack, fDrop, fBin, fUn, fC, fCons, fNil, fLend, fCall, putBack, fIfS, fB, fNot, fAnd, fOr, fAndV, fOrV, fNext, fIf, fX, fLst, fTup, fMov, fPar, gs2, gs3, gT, gsCons, gsNil, gAdd_i, gLt_i, gSub_i, gMul_i, gDiv_i, gMod_i, gGt_i, gLe_i, gGe_i, gInt_i, gNeg_i, gAbs_i, gMax_i, gMin_i, gPow_i, gSetI, gDivmod, gIx, OD.rd, OD.val, stAll, gLen, fItS, fItR1, fFor, fLc, wipeR, fPart, fNoPart, fSl, -List.map_map,m_law_draw, F_law_draw, pot, e1, e2, e3, hp0, hn, hn2, ixN, c1]
/-- a thing of a list, drawn -/
theorem pick_ok {o : OD} {ds : List D} (h : PotOk o) (h0 : ds ≠ []) (hl : ds.length < 1000000) : ∃ d o', d ∈ ds ∧ m_law_pick [o, .st (.lst ds)] = some (.st d, [some o', none]) ∧ PotOk o' := by
  have hpos : 0 < ds.length := List.length_pos_iff.mpr h0
  obtain ⟨k, o', e, k0, k1, p'⟩ := draw_ok (n := (ds.length : Int)) h (by omega) (by omega)
  obtain ⟨i, rfl⟩ := Int.eq_ofNat_of_zero_le k0
  have hi : i < ds.length := by omega
  refine ⟨ds[i], o', List.getElem_mem _, ?_, p'⟩
  have e2 := atI_nat (List.getElem?_eq_getElem hi)
  simp [runM, rho0, outsOf, fSeq, fRet, fAsg, gN, fFz, fPeek, fBack, fDrop, fBin, fUn, fC, fCons, fNil, fLend, fCall, putBack, fIfS, fB, fNot, fAnd, fOr, fAndV, fOrV, fNext, fIf, fX, fLst, fTup, fMov, fPar, gs2, gs3, gT, gsCons, gsNil, gAdd_i, gLt_i, gSub_i, gMul_i, gDiv_i, gMod_i, gGt_i, gLe_i, gGe_i, gInt_i, gNeg_i, gAbs_i, gMax_i, gMin_i, gPow_i, gSetI, gDivmod, gIx, OD.rd, OD.val, stAll, gLen, fItS, fItR1, fFor, fLc, wipeR, fPart, fNoPart, fSl, -List.map_map,m_law_pick, F_law_pick, e, e2]
theorem pickS_ok {o : OD} {z : Str} (h : PotOk o) (h0 : z.cps.toList ≠ []) (hl : z.cps.size < 1000000) : ∃ c o', c ∈ z.cps.toList ∧ m_law_pick [o, .st (.str z)] = some (.st (.str ⟨#[c]⟩), [some o', none]) ∧ PotOk o' := by
  have hpos : 0 < z.cps.toList.length := List.length_pos_iff.mpr h0
  have hsz : z.cps.toList.length = z.cps.size := by simp
  have hzl : z.length = z.cps.size := rfl
  obtain ⟨k, o', e, k0, k1, p'⟩ := draw_ok (n := (z.length : Int)) h (by omega) (by omega)
  obtain ⟨i, rfl⟩ := Int.eq_ofNat_of_zero_le k0
  have hi : i < z.cps.toList.length := by omega
  refine ⟨z.cps.toList[i], o', List.getElem_mem _, ?_, p'⟩
  have e2 := atI_nat (List.getElem?_eq_getElem hi)
  have hb : z.length ≤ big := by rw [hzl]; unfold big; omega
  simp [runM, rho0, outsOf, fSeq, fRet, fAsg, gN, fFz, fPeek, fBack, fDrop, fBin, fUn, fC, fCons, fNil, fLend, fCall, putBack, fIfS, fB, fNot, fAnd, fOr, fAndV, fOrV, fNext, fIf, fX, fLst, fTup, fMov, fPar, gs2, gs3, gT, gsCons, gsNil, gAdd_i, gLt_i, gSub_i, gMul_i, gDiv_i, gMod_i, gGt_i, gLe_i, gGe_i, gInt_i, gNeg_i, gAbs_i, gMax_i, gMin_i, gPow_i, gSetI, gDivmod, gIx, OD.rd, OD.val, stAll, gLen, fItS, fItR1, fFor, fLc, wipeR, fPart, fNoPart, fSl, -List.map_map,m_law_pick, F_law_pick, e, e2, hb]
theorem flat1 : ∀ l : List Nat, (l.map fun c => [c]).flatten = l
  | [] => rfl
  | a :: r => by simp [flat1 r]
theorem sum1 : ∀ l : List Nat, (l.map fun _ => 1).sum = l.length
  | [] => rfl
  | a :: r => by rw [List.map_cons, List.sum_cons, sum1 r, List.length_cons]; omega
theorem join_ones {l : List Nat} (h : l.length ≤ big) : gJoin (.st (.str "")) (.ol (l.map fun c => .st (.str (tx [c])))) = some (.st (.str (tx l))) := by
  have e4 : strsOf (l.map fun c => D.str (tx [c])) = some ((l.map fun c => [c]).map tx) := by
    rw [← strsOf_map, List.map_map, List.map_map]
    rfl
  have e5 : stAll (l.map fun c => OD.st (.str (tx [c]))) = some (l.map fun c => D.str (tx [c])) := by
    rw [← stAll_map, List.map_map]
    rfl
  have z0 : (Str.ofString "").length = 0 := by decide +kernel
  have e6 : (((l.map fun c => [c]).map tx).map (·.length)).sum = l.length := by
    have : ((l.map fun c => [c]).map tx).map (·.length) = l.map fun _ => 1 := by
      rw [List.map_map, List.map_map]
      rfl
    rw [this, sum1]
  have e7 : OD.rd (.ol (l.map fun c => .st (.str (tx [c])))) = some (.lst (l.map fun c => D.str (tx [c]))) := by
    show (stAll _).map D.lst = _
    rw [e5]
    rfl
  unfold gJoin
  rw [e7]
  simp only [e4, e6, z0, Nat.mul_zero, Nat.add_zero, if_pos h]
  rw [join0, flat1]
/-- signs, drawn one by one -/
theorem wordL_ok {z : Str} {m : OD} (h0 : z.cps.toList ≠ []) (hl : z.cps.size < 1000000) : ∀ (ds : List D) (o : OD) (l : List Nat), PotOk o → (∀ c ∈ l, c ∈ z.cps.toList) → l.length + ds.length ≤ 1000 →
    ∃ (l' : List Nat) (o' : OD), compL [3] (gN 3) fYes (fFz (fE (fCall m_law_pick (fLend 0 (fCons (fFz (fP 1)) fNil)) [some 0, none]))) ds [some o, some (.st (.str z)), some m, none] (l.map fun c => .st (.str (tx [c]))) =
      some (l'.map (fun c => .st (.str (tx [c]))), [some o', some (.st (.str z)), some m, none]) ∧ PotOk o' ∧ l'.length = l.length + ds.length ∧ ∀ c ∈ l', c ∈ z.cps.toList
  | [], o, l, hp, hz, _ => ⟨l, o, rfl, hp, by simp, hz⟩
  | d :: ds, o, l, hp, hz, hle => by
    obtain ⟨c, o1, hc, e, hp1⟩ := pickS_ok hp h0 hl
    simp only [List.length_cons] at hle
    obtain ⟨l', o', e', hp', hl', hz'⟩ := wordL_ok h0 hl ds o1 (l ++ [c]) hp1 (by
      intro x hx
      rcases List.mem_append.mp hx with hx | hx
      · exact hz x hx
      · have : x = c := by simpa using hx
        subst this; exact hc) (by simp; omega)
    refine ⟨l', o', ?_, hp', by simp at hl' ⊢; omega, hz'⟩
    have hb : l.length ≤ big := by unfold big; omega
    rw [← e', compL_t (ρ1 := [some o, some (.st (.str z)), some m, some (.st d)]) (ρ2 := [some o, some (.st (.str z)), some m, some (.st d)]) (ρ3 := [some o1, some (.st (.str z)), some m, some (.st d)]) (o := .st (.str (tx [c])))]
    · simp [wipeR]
    · simp [runM, rho0, outsOf, fSeq, fRet, fAsg, gN, fFz, fPeek, fBack, fDrop, fBin, fUn, fC, fCons, fNil, fLend, fCall, putBack, fIfS, fB, fNot, fAnd, fOr, fAndV, fOrV, fNext, fIf, fX, fLst, fTup, fMov, fPar, gs2, gs3, gT, gsCons, gsNil, gAdd_i, gLt_i, gSub_i, gMul_i, gDiv_i, gMod_i, gGt_i, gLe_i, gGe_i, gInt_i, gNeg_i, gAbs_i, gMax_i, gMin_i, gPow_i, gSetI, gDivmod, gIx, OD.rd, OD.val, stAll, gLen, fItS, fItR1, fFor, fLc, wipeR, fPart, fNoPart, fSl, -List.map_map]
    · rfl
    · simp [runM, rho0, outsOf, fSeq, fRet, fAsg, gN, fFz, fPeek, fBack, fDrop, fBin, fUn, fC, fCons, fNil, fLend, fCall, putBack, fIfS, fB, fNot, fAnd, fOr, fAndV, fOrV, fNext, fIf, fX, fLst, fTup, fMov, fPar, gs2, gs3, gT, gsCons, gsNil, gAdd_i, gLt_i, gSub_i, gMul_i, gDiv_i, gMod_i, gGt_i, gLe_i, gGe_i, gInt_i, gNeg_i, gAbs_i, gMax_i, gMin_i, gPow_i, gSetI, gDivmod, gIx, OD.rd, OD.val, stAll, gLen, fItS, fItR1, fFor, fLc, wipeR, fPart, fNoPart, fSl, -List.map_map,e]
    · simpa using hb
theorem word_ok {o : OD} {z : Str} {k : Int} (hp : PotOk o) (h0 : z.cps.toList ≠ []) (hl : z.cps.size < 1000000) (hk : 0 < k) (hk2 : k ≤ 100) : ∃ l o', m_law_word [o, .st (.str z), .st (.int k)] = some (.st (.str (tx l)), [some o', none, none]) ∧ PotOk o' ∧ l ≠ [] ∧ (l.length : Int) ≤ k ∧ ∀ c ∈ l, c ∈ z.cps.toList := by
  obtain ⟨d, o1, e1, d0, d1, hp1⟩ := draw_ok hp hk (by omega)
  obtain ⟨l, o', e2, hp', hl', hz'⟩ := wordL_ok (z := z) (m := .st (.int k)) h0 hl (rngD 0 (1 + d).toNat) o1 [] hp1 (fun _ z => nomatch z) (by simp [rngD]; omega)
  have hlen : l.length = (1 + d).toNat := by simpa [rngD] using hl'
  refine ⟨l, o', ?_, hp', by intro z; subst z; simp at hlen; omega, by omega, hz'⟩
  have c1 : -4611686018427387904 ≤ 1 + d ∧ 1 + d < 4611686018427387904 := by omega
  rw [List.map_nil] at e2
  have e3 := join_ones (l := l) (by unfold big; omega)
  simp [runM, rho0, outsOf, fSeq, fRet, fAsg, gN, fFz, fPeek, fBack, fDrop, fBin, fUn, fC, fCons, fNil, fLend, fCall, putBack, fIfS, fB, fNot, fAnd, fOr, fAndV, fOrV, fNext, fIf, fX, fLst, fTup, fMov, fPar, gs2, gs3, gT, gsCons, gsNil, gAdd_i, gLt_i, gSub_i, gMul_i, gDiv_i, gMod_i, gGt_i, gLe_i, gGe_i, gInt_i, gNeg_i, gAbs_i, gMax_i, gMin_i, gPow_i, gSetI, gDivmod, gIx, OD.rd, OD.val, stAll, gLen, fItS, fItR1, fFor, fLc, wipeR, fPart, fNoPart, fSl, -List.map_map,m_law_word, F_law_word, e1, c1, e2, e3]
theorem cut_tx (w : List Nat) (lo hi : Option Int) : ∃ v, cutS (tx w) lo hi = tx v ∧ v.length ≤ w.length ∧ (∀ c ∈ v, c ∈ w) := by
  refine ⟨_, rfl, ?_, fun c hc => ?_⟩
  · simp [List.length_take, List.length_drop]
    omega
  · have := List.mem_of_mem_drop (List.mem_of_mem_take hc)
    simpa using this
theorem tx_app (a b : List Nat) : tx a ++ tx b = tx (a ++ b) := by
  show (⟨a.toArray ++ b.toArray⟩ : Str) = _
  simp [tx]
end Lw
set_option Elab.async false
set_option linter.all false
set_option maxRecDepth 100000
set_option maxHeartbeats 400000
namespace Lw
open PySem L2 Qy
/-- the small letters -/
def Low (l : List Nat) : Prop := ∀ c ∈ l, 97 ≤ c ∧ c ≤ 122
theorem small_mem {c : Nat} (h : 97 ≤ c ∧ c ≤ 122) : c ∈ (Str.ofString "abcdefghijklmnopqrstuvwxyz").cps.toList := by
  have e : (Str.ofString "abcdefghijklmnopqrstuvwxyz").cps.toList = (List.range 26).map (· + 97) := by decide +kernel
  rw [e]
  exact List.mem_map.mpr ⟨c - 97, List.mem_range.mpr (by omega), by omega⟩
theorem Low.sm {l : List Nat} (h : Low l) : Sm l := fun c hc => by have := h c hc; omega
theorem blsOf_true {α : Type} : ∀ l : List α, blsOf (l.map fun _ => D.bl true) = some (l.map fun _ => true)
  | [] => rfl
  | a :: r => by
    rw [List.map_cons, List.map_cons]
    simp only [blsOf, blsOf_true r]
    rfl
theorem all_true {α : Type} (l : List α) : gAll (.ol ((l.map fun _ => D.bl true).map .st)) = some (.st (.bl true)) := by
  have e : OD.rd (.ol ((l.map fun _ => D.bl true).map .st)) = some (.lst (l.map fun _ => D.bl true)) := by
    show (stAll _).map D.lst = _
    rw [stAll_map]
    rfl
  unfold gAll
  rw [e]
  simp only [blsOf_true, Option.map_some]
  have : (l.map fun _ => true).all id = true := List.all_eq_true.mpr fun b hb => by
    obtain ⟨_, _, rfl⟩ := List.mem_map.mp hb
    rfl
  rw [this]
theorem is_word_ok {l : List Nat} (h : Low l) (h0 : l ≠ []) (hl : l.length ≤ 1000) : m_is_word [.st (.str (tx l))] = some (.st (.bl true), [none]) := by
  have hne : gNe (.st (.str (tx l))) (.st (.str "")) = some (.st (.bl true)) := by
    have := neS (b := []) h.sm (fun _ z => nomatch z)
    rw [← str0] at this
    rw [this]
    simp [h0]
  have hc := compL_pure (own := [1]) (tg := gN 1) (tt := fYes) (te := fBin gInQ (fP 1) (fE (fC (.str "abcdefghijklmnopqrstuvwxyz")))) (ρ0 := [some (.st (.str (tx l))), none]) (p := fun _ => true) (g := fun _ => .st (.bl true)) (ds := signs (tx l)) (acc := []) (by
    intro d hd
    obtain ⟨c, hc, rfl⟩ := List.mem_map.mp hd
    have hin : gInQ (.st (.str ⟨#[c]⟩)) (.st (.str "abcdefghijklmnopqrstuvwxyz")) = some (.st (.bl true)) := by
      show gOr2 gInS _ _ _ = _
      have : gInS (.st (.str ⟨#[c]⟩)) (.st (.str "abcdefghijklmnopqrstuvwxyz")) = some (.st (.bl true)) := by
        simp only [gInS, gSS]
        have := small_mem (h c (by simpa using hc))
        simp [this]
      unfold gOr2
      rw [this]
    refine ⟨[some (.st (.str (tx l))), some (.st (.str ⟨#[c]⟩))], [some (.st (.str (tx l))), some (.st (.str ⟨#[c]⟩))], by simp [runM, rho0, outsOf, fSeq, fRet, fAsg, gN, fFz, fPeek, fBack, fDrop, fBin, fUn, fC, fCons, fNil, fLend, fCall, putBack, fIfS, fB, fNot, fAnd, fOr, fAndV, fOrV, fNext, fIf, fX, fLst, fTup, fMov, fPar, gs2, gs3, gT, gsCons, gsNil, gAdd_i, gLt_i, gSub_i, gMul_i, gDiv_i, gMod_i, gGt_i, gLe_i, gGe_i, gInt_i, gNeg_i, gAbs_i, gMax_i, gMin_i, gPow_i, gSetI, gDivmod, gIx, OD.rd, OD.val, stAll, gLen, fItS, fItR1, fFor, fLc, wipeR, fPart, fNoPart, fSl, -List.map_map], rfl, (fun z => by cases z), fun _ => ⟨[some (.st (.str (tx l))), some (.st (.str ⟨#[c]⟩))], ?_, by simp [wipeR]⟩⟩
    simp [runM, rho0, outsOf, fSeq, fRet, fAsg, gN, fFz, fPeek, fBack, fDrop, fBin, fUn, fC, fCons, fNil, fLend, fCall, putBack, fIfS, fB, fNot, fAnd, fOr, fAndV, fOrV, fNext, fIf, fX, fLst, fTup, fMov, fPar, gs2, gs3, gT, gsCons, gsNil, gAdd_i, gLt_i, gSub_i, gMul_i, gDiv_i, gMod_i, gGt_i, gLe_i, gGe_i, gInt_i, gNeg_i, gAbs_i, gMax_i, gMin_i, gPow_i, gSetI, gDivmod, gIx, OD.rd, OD.val, stAll, gLen, fItS, fItR1, fFor, fLc, wipeR, fPart, fNoPart, fSl, -List.map_map,hin]) (by simp [signs, big]; omega)
  have e1 : (List.filter (fun _ => true) (signs (tx l))).map (fun _ => OD.st (.bl true)) = ((signs (tx l)).map fun _ => D.bl true).map .st := by
    rw [List.filter_eq_self.mpr (fun _ _ => rfl), List.map_map]
    rfl
  rw [List.nil_append, e1] at hc
  have hall : gAll (.ol (((signs (tx l)).map fun _ => D.bl true).map .st)) = some (.st (.bl true)) := all_true _
  have hisi : gIsi (.st (.str (tx l))) (.st (.raw (.ty "str"))) = some (.st (.bl true)) := by
    have : kitB "str" "str" = some true := by decide +kernel
    simp [gIsi, OD.rd, tyN, this]
  simp [runM, rho0, outsOf, fSeq, fRet, fAsg, gN, fFz, fPeek, fBack, fDrop, fBin, fUn, fC, fCons, fNil, fLend, fCall, putBack, fIfS, fB, fNot, fAnd, fOr, fAndV, fOrV, fNext, fIf, fX, fLst, fTup, fMov, fPar, gs2, gs3, gT, gsCons, gsNil, gAdd_i, gLt_i, gSub_i, gMul_i, gDiv_i, gMod_i, gGt_i, gLe_i, gGe_i, gInt_i, gNeg_i, gAbs_i, gMax_i, gMin_i, gPow_i, gSetI, gDivmod, gIx, OD.rd, OD.val, stAll, gLen, fItS, fItR1, fFor, fLc, wipeR, fPart, fNoPart, fSl, -List.map_map,m_is_word, F_is_word, hne, hc, hall, hisi]
theorem is_question_ok {l : List Nat} (h : Low l) (h0 : l ≠ []) (hl : l.length ≤ 24) : m_is_question [.st (.str (tx l))] = some (.st (.bl true), [none]) := by
  have e := is_word_ok h h0 (by omega)
  have hb : l.length ≤ big := by unfold big; omega
  have h2 : (l.length : Int) ≤ 24 := by omega
  simp [runM, rho0, outsOf, fSeq, fRet, fAsg, gN, fFz, fPeek, fBack, fDrop, fBin, fUn, fC, fCons, fNil, fLend, fCall, putBack, fIfS, fB, fNot, fAnd, fOr, fAndV, fOrV, fNext, fIf, fX, fLst, fTup, fMov, fPar, gs2, gs3, gT, gsCons, gsNil, gAdd_i, gLt_i, gSub_i, gMul_i, gDiv_i, gMod_i, gGt_i, gLe_i, gGe_i, gInt_i, gNeg_i, gAbs_i, gMax_i, gMin_i, gPow_i, gSetI, gDivmod, gIx, OD.rd, OD.val, stAll, gLen, fItS, fItR1, fFor, fLc, wipeR, fPart, fNoPart, fSl, -List.map_map,m_is_question, F_is_question, e, tx_len, hb, h2]
theorem want_question_ok {l : List Nat} (h : Low l) (h0 : l ≠ []) (hl : l.length ≤ 24) : m_want_question [.st (.str (tx l))] = some (.st .non, [none]) := by
  have e := is_question_ok h h0 hl
  simp [runM, rho0, outsOf, fSeq, fRet, fAsg, gN, fFz, fPeek, fBack, fDrop, fBin, fUn, fC, fCons, fNil, fLend, fCall, putBack, fIfS, fB, fNot, fAnd, fOr, fAndV, fOrV, fNext, fIf, fX, fLst, fTup, fMov, fPar, gs2, gs3, gT, gsCons, gsNil, gAdd_i, gLt_i, gSub_i, gMul_i, gDiv_i, gMod_i, gGt_i, gLe_i, gGe_i, gInt_i, gNeg_i, gAbs_i, gMax_i, gMin_i, gPow_i, gSetI, gDivmod, gIx, OD.rd, OD.val, stAll, gLen, fItS, fItR1, fFor, fLc, wipeR, fPart, fNoPart, fSl, -List.map_map,m_want_question, F_want_question, e]
theorem is_kept_ok {l : List Nat} (h : Low l) (h0 : l ≠ []) (hl : l.length ≤ 12) : m_is_kept_word [.st (.str (tx l))] = some (.st (.bl true), [none]) := by
  have e := is_word_ok h h0 (by omega)
  have hb : l.length ≤ big := by unfold big; omega
  have h2 : (l.length : Int) ≤ 12 := by omega
  simp [runM, rho0, outsOf, fSeq, fRet, fAsg, gN, fFz, fPeek, fBack, fDrop, fBin, fUn, fC, fCons, fNil, fLend, fCall, putBack, fIfS, fB, fNot, fAnd, fOr, fAndV, fOrV, fNext, fIf, fX, fLst, fTup, fMov, fPar, gs2, gs3, gT, gsCons, gsNil, gAdd_i, gLt_i, gSub_i, gMul_i, gDiv_i, gMod_i, gGt_i, gLe_i, gGe_i, gInt_i, gNeg_i, gAbs_i, gMax_i, gMin_i, gPow_i, gSetI, gDivmod, gIx, OD.rd, OD.val, stAll, gLen, fItS, fItR1, fFor, fLc, wipeR, fPart, fNoPart, fSl, -List.map_map,m_is_kept_word, F_is_kept_word, e, tx_len, hb, h2]
/-- where w stands in q -/
def occ (q w : List Nat) : List Nat := (List.range (q.length + 1 - w.length)).filter fun p => decide ((q.drop p).take w.length = w)
theorem cut_at {q : List Nat} {p n : Nat} (h : p + n ≤ q.length) : cutS (tx q) (some (p : Int)) (some ((p : Int) + (n : Int))) = tx ((q.drop p).take n) := by
  show (⟨((q.drop (HT.sIx q.length 0 (some (p : Int)))).take (HT.sIx q.length q.length (some ((p : Int) + (n : Int))) - HT.sIx q.length 0 (some (p : Int)))).toArray⟩ : Str) = _
  rw [show ((p : Int) + (n : Int)) = ((p + n : Nat) : Int) by omega, HT.sIx_nat, HT.sIx_nat, Nat.min_eq_left h, Nat.min_eq_left (show p ≤ q.length by omega)]
  rw [show p + n - p = n by omega]
theorem stands_ok {q w : List Nat} (hq : Sm q) (hw : Sm w) (lq : q.length ≤ 1000) (lw : w.length ≤ 1000) : m_stands_at [.st (.str (tx q)), .st (.str (tx w))] = some (.ol (((occ q w).map fun (p : Nat) => D.int (p : Int)).map .st), [none, none]) := by
  have bq : q.length ≤ big := by unfold big; omega
  have bw : w.length ≤ big := by unfold big; omega
  have hc := compL_pure (own := [2]) (tg := gN 2) (tt := (fB (fBin gEq (fE (fSl (fP 0) (fPart (fFz (fP 2))) (fPart (fBin gAdd (fP 2) (fE (fUn gLen (fP 1))))))) (fP 1)))) (te := fFz (fP 2)) (ρ0 := [some (.st (.str (tx q))), some (.st (.str (tx w))), none])
    (p := fun d => match d with | .int i => decide ((q.drop i.toNat).take w.length = w) | _ => false) (g := fun d => .st d) (ds := rngD 0 (q.length + 1 - w.length)) (acc := []) (by
    intro d hd
    obtain ⟨p, hp, rfl⟩ := List.mem_map.mp hd
    have hp' := List.mem_range.mp hp
    have hle : p + w.length ≤ q.length := by omega
    have ec := cut_at (q := q) (p := p) (n := w.length) hle
    have hs : Sm ((q.drop p).take w.length) := fun c hc => hq c (List.mem_of_mem_drop (List.mem_of_mem_take hc))
    have ee := eqS hs hw
    refine ⟨[some (.st (.str (tx q))), some (.st (.str (tx w))), some (.st (.int (p : Int)))], [some (.st (.str (tx q))), some (.st (.str (tx w))), some (.st (.int (p : Int)))], by simp [runM, rho0, outsOf, fSeq, fRet, fAsg, gN, fFz, fPeek, fBack, fDrop, fBin, fUn, fC, fCons, fNil, fLend, fCall, putBack, fIfS, fB, fNot, fAnd, fOr, fAndV, fOrV, fNext, fIf, fX, fLst, fTup, fMov, fPar, gs2, gs3, gT, gsCons, gsNil, gAdd_i, gLt_i, gSub_i, gMul_i, gDiv_i, gMod_i, gGt_i, gLe_i, gGe_i, gInt_i, gNeg_i, gAbs_i, gMax_i, gMin_i, gPow_i, gSetI, gDivmod, gIx, OD.rd, OD.val, stAll, gLen, fItS, fItR1, fFor, fLc, wipeR, fPart, fNoPart, fSl, -List.map_map], ?_, fun _ => by simp [wipeR], fun _ => ⟨[some (.st (.str (tx q))), some (.st (.str (tx w))), some (.st (.int (p : Int)))], by simp [runM, rho0, outsOf, fSeq, fRet, fAsg, gN, fFz, fPeek, fBack, fDrop, fBin, fUn, fC, fCons, fNil, fLend, fCall, putBack, fIfS, fB, fNot, fAnd, fOr, fAndV, fOrV, fNext, fIf, fX, fLst, fTup, fMov, fPar, gs2, gs3, gT, gsCons, gsNil, gAdd_i, gLt_i, gSub_i, gMul_i, gDiv_i, gMod_i, gGt_i, gLe_i, gGe_i, gInt_i, gNeg_i, gAbs_i, gMax_i, gMin_i, gPow_i, gSetI, gDivmod, gIx, OD.rd, OD.val, stAll, gLen, fItS, fItR1, fFor, fLc, wipeR, fPart, fNoPart, fSl, -List.map_map], by simp [wipeR]⟩⟩
    simp [runM, rho0, outsOf, fSeq, fRet, fAsg, gN, fFz, fPeek, fBack, fDrop, fBin, fUn, fC, fCons, fNil, fLend, fCall, putBack, fIfS, fB, fNot, fAnd, fOr, fAndV, fOrV, fNext, fIf, fX, fLst, fTup, fMov, fPar, gs2, gs3, gT, gsCons, gsNil, gAdd_i, gLt_i, gSub_i, gMul_i, gDiv_i, gMod_i, gGt_i, gLe_i, gGe_i, gInt_i, gNeg_i, gAbs_i, gMax_i, gMin_i, gPow_i, gSetI, gDivmod, gIx, OD.rd, OD.val, stAll, gLen, fItS, fItR1, fFor, fLc, wipeR, fPart, fNoPart, fSl, -List.map_map,tx_len, bq, bw, gSl, ec, ee]) (by simp [rngD, big]; omega)
  have ef : ((rngD 0 (q.length + 1 - w.length)).filter fun d => match d with | .int i => decide ((q.drop i.toNat).take w.length = w) | _ => false).map OD.st = ((occ q w).map fun (p : Nat) => D.int (p : Int)).map .st := by
    unfold rngD occ
    rw [List.filter_map]
    congr 1
    have : ((fun d => match d with | D.int i => decide ((q.drop i.toNat).take w.length = w) | _ => false) ∘ fun (i : Nat) => D.int (0 + (i : Int))) = fun p => decide ((q.drop p).take w.length = w) := by
      funext p
      simp
    rw [this]
    refine List.map_congr_left fun p _ => ?_
    simp
  rw [List.nil_append, ef] at hc
  have hn : ((q.length : Int) - (w.length : Int) + 1).toNat = q.length + 1 - w.length := by omega
  have c1 : -4611686018427387904 ≤ (q.length : Int) - (w.length : Int) + 1 ∧ (q.length : Int) - (w.length : Int) + 1 < 4611686018427387904 := by omega
  simp [runM, rho0, outsOf, fSeq, fRet, fAsg, gN, fFz, fPeek, fBack, fDrop, fBin, fUn, fC, fCons, fNil, fLend, fCall, putBack, fIfS, fB, fNot, fAnd, fOr, fAndV, fOrV, fNext, fIf, fX, fLst, fTup, fMov, fPar, gs2, gs3, gT, gsCons, gsNil, gAdd_i, gLt_i, gSub_i, gMul_i, gDiv_i, gMod_i, gGt_i, gLe_i, gGe_i, gInt_i, gNeg_i, gAbs_i, gMax_i, gMin_i, gPow_i, gSetI, gDivmod, gIx, OD.rd, OD.val, stAll, gLen, fItS, fItR1, fFor, fLc, wipeR, fPart, fNoPart, fSl, -List.map_map,m_stands_at, F_stands_at, tx_len, bq, bw, c1, hn, hc]
/-- the bridges of one word, of all -/
def brs (q w : List Nat) : List D := (occ q w).map fun (p : Nat) => .tup [.int (p : Int), .int ((p : Int) + (w.length : Int)), .str (tx w)]
def raw (q : List Nat) (ws : List (List Nat)) : List D := ws.flatMap (brs q)
theorem occ_len (q w : List Nat) : (occ q w).length ≤ q.length + 1 := by
  unfold occ
  have := List.length_filter_le (fun p => decide ((q.drop p).take w.length = w)) (List.range (q.length + 1 - w.length))
  simp at this
  omega
theorem brs_comp {q w : List Nat} {a b : Option OD} (hq : q.length ≤ 1000) (lw : w.length ≤ 1000) : compL [4] (gN 4) fYes (fTup (fCons (fFz (fP 4)) (fCons (fBin gAdd (fP 4) (fE (fUn gLen (fP 3)))) (fCons (fFz (fP 3)) fNil)))) ((occ q w).map fun (p : Nat) => D.int (p : Int)) [a, some (.st (.str (tx q))), b, some (.st (.str (tx w))), none] [] =
    some ((brs q w).map .st, [a, some (.st (.str (tx q))), b, some (.st (.str (tx w))), none]) := by
  have bw : w.length ≤ big := by unfold big; omega
  have b3 : 3 ≤ big := by decide
  have hc := compL_pure (own := [4]) (tg := gN 4) (tt := fYes) (te := (fTup (fCons (fFz (fP 4)) (fCons (fBin gAdd (fP 4) (fE (fUn gLen (fP 3)))) (fCons (fFz (fP 3)) fNil))))) (ρ0 := [a, some (.st (.str (tx q))), b, some (.st (.str (tx w))), none])
    (p := fun _ => true) (g := fun d => match d with | .int i => .st (.tup [.int i, .int (i + (w.length : Int)), .str (tx w)]) | _ => .st .non) (ds := (occ q w).map fun (p : Nat) => D.int (p : Int)) (acc := []) (by
    intro d hd
    obtain ⟨p, hp, rfl⟩ := List.mem_map.mp hd
    refine ⟨[a, some (.st (.str (tx q))), b, some (.st (.str (tx w))), some (.st (.int (p : Int)))], [a, some (.st (.str (tx q))), b, some (.st (.str (tx w))), some (.st (.int (p : Int)))], by simp [runM, rho0, outsOf, fSeq, fRet, fAsg, gN, fFz, fPeek, fBack, fDrop, fBin, fUn, fC, fCons, fNil, fLend, fCall, putBack, fIfS, fB, fNot, fAnd, fOr, fAndV, fOrV, fNext, fIf, fX, fLst, fTup, fMov, fPar, gs2, gs3, gT, gsCons, gsNil, gAdd_i, gLt_i, gSub_i, gMul_i, gDiv_i, gMod_i, gGt_i, gLe_i, gGe_i, gInt_i, gNeg_i, gAbs_i, gMax_i, gMin_i, gPow_i, gSetI, gDivmod, gIx, OD.rd, OD.val, stAll, gLen, fItS, fItR1, fFor, fLc, wipeR, fPart, fNoPart, fSl, -List.map_map], rfl, (fun z => by cases z), fun _ => ⟨[a, some (.st (.str (tx q))), b, some (.st (.str (tx w))), some (.st (.int (p : Int)))], ?_, by simp [wipeR]⟩⟩
    simp [runM, rho0, outsOf, fSeq, fRet, fAsg, gN, fFz, fPeek, fBack, fDrop, fBin, fUn, fC, fCons, fNil, fLend, fCall, putBack, fIfS, fB, fNot, fAnd, fOr, fAndV, fOrV, fNext, fIf, fX, fLst, fTup, fMov, fPar, gs2, gs3, gT, gsCons, gsNil, gAdd_i, gLt_i, gSub_i, gMul_i, gDiv_i, gMod_i, gGt_i, gLe_i, gGe_i, gInt_i, gNeg_i, gAbs_i, gMax_i, gMin_i, gPow_i, gSetI, gDivmod, gIx, OD.rd, OD.val, stAll, gLen, fItS, fItR1, fFor, fLc, wipeR, fPart, fNoPart, fSl, -List.map_map,tx_len, bw, b3]) (by have := occ_len q w; simp [big]; omega)
  rw [hc]
  have e : (((occ q w).map fun (p : Nat) => D.int (p : Int)).filter fun _ => true).map (fun d => match d with | .int i => OD.st (.tup [.int i, .int (i + (w.length : Int)), .str (tx w)]) | _ => .st .non) = (brs q w).map .st := by
    rw [List.filter_eq_self.mpr (fun _ _ => rfl), List.map_map]
    unfold brs
    rw [List.map_map]
    rfl
  rw [List.nil_append, e]
theorem raw_mem {q : List Nat} {ws : List (List Nat)} {d : D} (h : d ∈ raw q ws) : ∃ (p : Nat) (w : List Nat), w ∈ ws ∧ p ∈ occ q w ∧ d = .tup [.int (p : Int), .int ((p : Int) + (w.length : Int)), .str (tx w)] := by
  obtain ⟨w, hw, h⟩ := List.mem_flatMap.mp h
  obtain ⟨p, hp, rfl⟩ := List.mem_map.mp h
  exact ⟨p, w, hw, hp, rfl⟩
theorem py3 (a b : Int) (x : Str) : (D.tup [.int a, .int b, .str x]).py = some (.tuple [.int a, .int b, .str x]) := rfl
theorem raw_sortOk (q : List Nat) (ws : List (List Nat)) : sortOk (raw q ws) := by
  have hp : ∀ d ∈ raw q ws, ∃ (a b : Int) (x : Str), pyD d = .tuple [.int a, .int b, .str x] ∧ d.py.isSome = true := fun d hd => by
    obtain ⟨p, w, _, _, rfl⟩ := raw_mem hd
    exact ⟨_, _, _, rfl, rfl⟩
  refine ⟨fun d hd => ?_, fun d hd d' hd' => ?_, .inl fun d hd => ?_, fun d hd => ?_⟩
  · obtain ⟨_, _, _, _, h⟩ := hp d hd; exact h
  · obtain ⟨e, he, rfl⟩ := List.mem_map.mp hd
    obtain ⟨e', he', rfl⟩ := List.mem_map.mp hd'
    obtain ⟨_, _, _, h, _⟩ := hp e he
    obtain ⟨_, _, _, h', _⟩ := hp e' he'
    rw [h, h']
    rfl
  · obtain ⟨e, he, rfl⟩ := List.mem_map.mp hd
    obtain ⟨_, _, _, h, _⟩ := hp e he
    exact ⟨_, _, h⟩
  · obtain ⟨_, _, _, h, _⟩ := hp d hd
    rw [h]
    show (1 : Nat) ≤ 64
    decide
theorem bridges_by_ok {q : List Nat} {ws : List (List Nat)} {o : OD} (ho : o = .st (.lst (wD ws)) ∨ o = .st (.tup (wD ws))) (hq : Sm q) (lq : q.length ≤ 100) (hw : ∀ w ∈ ws, Sm w ∧ w.length ≤ 100) (hl : ws.length ≤ 100) :
    m_bridges_by [o, .st (.str (tx q))] = some (.ol (((raw q ws).mergeSort leD).map .st), [none, none]) := by
  have lp := loopF_inv (tg := gN 3) (body := (fX (fExtend 2 (fLc [4] (fItS (fFz (fE (fCall m_stands_at (fCons (fFz (fP 1)) (fCons (fFz (fP 3)) fNil)) [none, none])))) (gN 4) fYes (fTup (fCons (fFz (fP 4)) (fCons (fBin gAdd (fP 4) (fE (fUn gLen (fP 3)))) (fCons (fFz (fP 3)) fNil))))))))
    (I := fun i ρ => ∃ s3, (raw q (ws.take i)).length ≤ 200 * i ∧ ρ = [some o, some (.st (.str (tx q))), some (.ol ((raw q (ws.take i)).map .st)), s3, none])
    (ds := wD ws) (i := 0) (ρ := [some o, some (.st (.str (tx q))), some (.ol []), none, none]) ⟨none, by simp [raw], rfl⟩ (by
      rintro j d ρ hd ⟨s3, hr, rfl⟩
      rw [Nat.zero_add] at hr ⊢
      have hj : j < ws.length := by
        have := (List.getElem?_eq_some_iff.mp hd).1
        simpa [wD] using this
      have hdw : d = .str (tx ws[j]) := by
        have e : (wD ws)[j]? = some (.str (tx ws[j])) := by simp [wD, hj]
        rw [e] at hd
        exact (Option.some.inj hd).symm
      subst hdw
      have hm : ws[j] ∈ ws := List.getElem_mem _
      have e1 := stands_ok hq (hw _ hm).1 (by omega) (by have := (hw _ hm).2; omega)
      have e2 := brs_comp (q := q) (w := ws[j]) (a := some o) (b := some (.ol ((raw q (ws.take j)).map .st))) (by omega) (by have := (hw _ hm).2; omega)
      have er : raw q (ws.take (j + 1)) = raw q (ws.take j) ++ brs q ws[j] := by
        unfold raw
        rw [← List.take_append_getElem hj, List.flatMap_append, List.flatMap_singleton]
      have lb : (brs q ws[j]).length ≤ 101 := by
        have := occ_len q ws[j]
        simp [brs]
        omega
      have hb : (raw q (ws.take j)).length + (brs q ws[j]).length ≤ big := by unfold big; omega
      refine ⟨[some o, some (.st (.str (tx q))), some (.ol ((raw q (ws.take j)).map .st)), some (.st (.str (tx ws[j]))), none], [some o, some (.st (.str (tx q))), some (.ol ((raw q (ws.take (j + 1))).map .st)), some (.st (.str (tx ws[j]))), none], by simp [runM, rho0, outsOf, fSeq, fRet, fAsg, gN, fFz, fPeek, fBack, fDrop, fBin, fUn, fC, fCons, fNil, fLend, fCall, putBack, fIfS, fB, fNot, fAnd, fOr, fAndV, fOrV, fNext, fIf, fX, fLst, fTup, fMov, fPar, gs2, gs3, gT, gsCons, gsNil, gAdd_i, gLt_i, gSub_i, gMul_i, gDiv_i, gMod_i, gGt_i, gLe_i, gGe_i, gInt_i, gNeg_i, gAbs_i, gMax_i, gMin_i, gPow_i, gSetI, gDivmod, gIx, OD.rd, OD.val, stAll, gLen, fItS, fItR1, fFor, fLc, wipeR, fPart, fNoPart, fSl, -List.map_map], ?_, _, ?_, rfl⟩
      · rw [er, List.map_append]
        have evl : valL (((occ q ws[j]).map fun (p : Nat) => D.int (p : Int)).map .st) = (occ q ws[j]).map fun (p : Nat) => D.int (p : Int) := by
          rw [valL_map, List.map_map]
          simp [Function.comp_def, OD.val]
        simp [runM, rho0, outsOf, fSeq, fRet, fAsg, gN, fFz, fPeek, fBack, fDrop, fBin, fUn, fC, fCons, fNil, fLend, fCall, putBack, fIfS, fB, fNot, fAnd, fOr, fAndV, fOrV, fNext, fIf, fX, fLst, fTup, fMov, fPar, gs2, gs3, gT, gsCons, gsNil, gAdd_i, gLt_i, gSub_i, gMul_i, gDiv_i, gMod_i, gGt_i, gLe_i, gGe_i, gInt_i, gNeg_i, gAbs_i, gMax_i, gMin_i, gPow_i, gSetI, gDivmod, gIx, OD.rd, OD.val, stAll, gLen, fItS, fItR1, fFor, fLc, wipeR, fPart, fNoPart, fSl, -List.map_map,fExtend, e1, evl, e2, hb]
      · rw [er, List.length_append]
        omega)
  obtain ⟨ρ', e1, s3, hr, rfl⟩ := lp
  have el : ws.take (0 + (wD ws).length) = ws := by rw [Nat.zero_add]; simp [wD]
  rw [el] at e1
  have hs : gSorted (.ol ((raw q ws).map .st)) = some (.ol (((raw q ws).mergeSort leD).map .st)) := by
    have e : OD.rd (.ol ((raw q ws).map .st)) = some (.lst (raw q ws)) := by
      show (stAll _).map D.lst = _
      rw [stAll_map]
      rfl
    unfold gSorted
    rw [e]
    simp only
    rw [if_pos (raw_sortOk q ws)]
  rcases ho with rfl | rfl
  · simp [runM, rho0, outsOf, fSeq, fRet, fAsg, gN, fFz, fPeek, fBack, fDrop, fBin, fUn, fC, fCons, fNil, fLend, fCall, putBack, fIfS, fB, fNot, fAnd, fOr, fAndV, fOrV, fNext, fIf, fX, fLst, fTup, fMov, fPar, gs2, gs3, gT, gsCons, gsNil, gAdd_i, gLt_i, gSub_i, gMul_i, gDiv_i, gMod_i, gGt_i, gLe_i, gGe_i, gInt_i, gNeg_i, gAbs_i, gMax_i, gMin_i, gPow_i, gSetI, gDivmod, gIx, OD.rd, OD.val, stAll, gLen, fItS, fItR1, fFor, fLc, wipeR, fPart, fNoPart, fSl, -List.map_map,m_bridges_by, F_bridges_by, e1, hs]
  · simp [runM, rho0, outsOf, fSeq, fRet, fAsg, gN, fFz, fPeek, fBack, fDrop, fBin, fUn, fC, fCons, fNil, fLend, fCall, putBack, fIfS, fB, fNot, fAnd, fOr, fAndV, fOrV, fNext, fIf, fX, fLst, fTup, fMov, fPar, gs2, gs3, gT, gsCons, gsNil, gAdd_i, gLt_i, gSub_i, gMul_i, gDiv_i, gMod_i, gGt_i, gLe_i, gGe_i, gInt_i, gNeg_i, gAbs_i, gMax_i, gMin_i, gPow_i, gSetI, gDivmod, gIx, OD.rd, OD.val, stAll, gLen, fItS, fItR1, fFor, fLc, wipeR, fPart, fNoPart, fSl, -List.map_map,m_bridges_by, F_bridges_by, e1, hs]
end Lw
set_option Elab.async false
set_option linter.all false
set_option maxRecDepth 100000
set_option maxHeartbeats 400000
namespace Lw
open PySem L2 Qy
/-- a while by a state -/
theorem loopW_st {τ : Type} {c : Ft} {body : Fs} (st : τ → Rho) (I : τ → Prop) (μ : τ → Nat) (hs : ∀ x, I x → (∃ ρ1, c (st x) = some (false, ρ1)) ∨ ∃ ρ1 y, c (st x) = some (true, ρ1) ∧ body ρ1 = some (.nx (st y)) ∧ I y ∧ μ y < μ x) :
    ∀ (n : Nat) (x : τ), I x → μ x < n → ∃ y ρ', loopW c body n (st x) = some (.nx ρ') ∧ I y ∧ c (st y) = some (false, ρ')
  | 0, _, _, h => absurd h (Nat.not_lt_zero _)
  | n + 1, x, h, hm => by
    rcases hs x h with ⟨ρ1, h1⟩ | ⟨ρ1, y, h1, h2, h3, h4⟩
    · exact ⟨x, ρ1, by simp only [loopW, h1], h, h1⟩
    · obtain ⟨z, ρ', h5, h6, h7⟩ := loopW_st st I μ hs n y h3 (by omega)
      exact ⟨z, ρ', by simp only [loopW, h1, h2]; exact h5, h6, h7⟩
abbrev pD (E : List (Int × Int)) : List D := E.map fun p => .tup [.int p.1, .int p.2]
def tgs (E : List (Int × Int)) (a : Int) : List Int := (E.filter fun p => decide (p.1 = a)).map (·.2)
theorem tgs_mem {E : List (Int × Int)} {a b : Int} : b ∈ tgs E a ↔ (a, b) ∈ E := by
  unfold tgs
  rw [List.mem_map]
  constructor
  · rintro ⟨p, hp, rfl⟩
    obtain ⟨h1, h2⟩ := List.mem_filter.mp hp
    have : p.1 = a := by simpa using h2
    subst this
    exact h1
  · exact fun h => ⟨(a, b), List.mem_filter.mpr ⟨h, by simp⟩, rfl⟩
theorem tgs_app (E : List (Int × Int)) (a b c : Int) : tgs (E ++ [(a, b)]) c = if a = c then tgs E c ++ [b] else tgs E c := by
  unfold tgs
  rw [List.filter_append, List.map_append]
  by_cases h : a = c
  · simp [h]
  · simp [h]
theorem tgs_len (E : List (Int × Int)) (a : Int) : (tgs E a).length ≤ E.length := by
  unfold tgs
  simpa using List.length_filter_le _ E
def GoalOk (E : List (Int × Int)) (ds : List (Key × D)) : Prop := ∀ a, valA ds (.inl a) = if tgs E a = [] then none else some (.lst (iD (tgs E a)))
theorem GoalOk.step {E : List (Int × Int)} {ds : List (Key × D)} (h : GoalOk E ds) (a b : Int) : GoalOk (E ++ [(a, b)]) (putA ds (.inl a) (.lst (iD (tgs E a ++ [b])))) := by
  intro c
  rw [valA_put, tgs_app]
  by_cases e : a = c
  · subst e; simp
  · have e' : ¬ ((Sum.inl a : Key) = .inl c) := fun z => e (Sum.inl.inj z)
    rw [if_neg e', if_neg e]
    exact h c
abbrev SpB1 : Fs := (fAsg (fFz (fE (fBin gAdd (fE (fGet2 (fP 2) (fFz (fP 3)) (fLst fNil))) (fE (fLst (fCons (fFz (fP 4)) fNil)))))) (gSetQ 2 (fFz (fP 3))))
theorem spread1 {E : List (Int × Int)} {L S : OD} (hE : E.length ≤ 10000) : ∃ ds s3 s4, loopF (gT 2 (gsCons (gN 3) (gsCons (gN 4) gsNil))) SpB1 (pD E) [some L, some S, some (.oK []), none, none, none, none, none] =
    some (.nx [some L, some S, some (.oK (stD ds)), s3, s4, none, none, none]) ∧ GoalOk E ds := by
  have lp := loopF_inv (tg := gT 2 (gsCons (gN 3) (gsCons (gN 4) gsNil))) (body := SpB1)
    (I := fun i ρ => ∃ ds s3 s4, GoalOk (E.take i) ds ∧ ds.length ≤ i ∧ ρ = [some L, some S, some (.oK (stD ds)), s3, s4, none, none, none])
    (ds := pD E) (i := 0) (ρ := [some L, some S, some (.oK []), none, none, none, none, none]) ⟨[], none, none, fun a => by simp [tgs, valA_nil], Nat.le_refl _, rfl⟩ (by
      rintro j d ρ hd ⟨ds, s3, s4, hg, hl, rfl⟩
      rw [Nat.zero_add] at hg hl ⊢
      have hj : j < E.length := by
        have := (List.getElem?_eq_some_iff.mp hd).1
        simpa [pD] using this
      have hdw : d = .tup [.int E[j].1, .int E[j].2] := by
        have e : (pD E)[j]? = some (.tup [.int E[j].1, .int E[j].2]) := by simp [pD, hj]
        rw [e] at hd
        exact (Option.some.inj hd).symm
      subst hdw
      have hb : ds.length ≤ big := by unfold big; omega
      have htk : E.take (j + 1) = E.take j ++ [(E[j].1, E[j].2)] := (List.take_append_getElem hj).symm
      have hv := hg E[j].1
      have hlen := tgs_len (E.take j) E[j].1
      have hlen2 : (tgs (E.take j) E[j].1).length ≤ 10000 := by
        have : (E.take j).length ≤ E.length := by simp; omega
        omega
      have ek : OD.rd (.oK (stD ds)) = some (.dK ds) := by
        show (stK _).map D.dK = _
        rw [stK_map]
        rfl
      refine ⟨[some L, some S, some (.oK (stD ds)), some (.st (.int E[j].1)), some (.st (.int E[j].2)), none, none, none], [some L, some S, some (.oK (stD (putA ds (.inl E[j].1) (.lst (iD (tgs (E.take j) E[j].1 ++ [E[j].2])))))), some (.st (.int E[j].1)), some (.st (.int E[j].2)), none, none, none], by simp [runM, rho0, outsOf, fSeq, fRet, fAsg, gN, fFz, fPeek, fBack, fDrop, fBin, fUn, fC, fCons, fNil, fLend, fCall, putBack, fIfS, fB, fNot, fAnd, fOr, fAndV, fOrV, fNext, fIf, fX, fLst, fTup, fMov, fPar, gs2, gs3, gT, gsCons, gsNil, gAdd_i, gLt_i, gSub_i, gMul_i, gDiv_i, gMod_i, gGt_i, gLe_i, gGe_i, gInt_i, gNeg_i, gAbs_i, gMax_i, gMin_i, gPow_i, gSetI, gDivmod, gIx, OD.rd, OD.val, stAll, gLen, fItS, fItR1, fFor, fLc, wipeR, fPart, fNoPart, fSl, -List.map_map], ?_, _, _, _, htk ▸ hg.step _ _, (by have := len_put ds (.inl E[j].1) (.lst (iD (tgs (E.take j) E[j].1 ++ [E[j].2]))); omega), rfl⟩
      by_cases h0 : tgs (E.take j) E[j].1 = []
      · rw [if_pos h0] at hv
        have ea : gAdd (.ol []) (.ol [.st (.int E[j].2)]) = some (.ol ((iD (tgs (E.take j) E[j].1 ++ [E[j].2])).map .st)) := by
          rw [h0]
          exact gAdd_l (xs := []) (ys := [.int E[j].2]) rfl rfl (by simp [big])
        have evl := val_ol (iD (tgs (E.take j) E[j].1 ++ [E[j].2]))
        simp only [runM, outsOf, fSeq, fRet, fAsg, gN, fFz, fPeek, fBack, fDrop, fBin, fUn, fC, fCons, fNil, fLend, fCall, fCallK, pick, List.filterMap_cons, List.filterMap_nil, putBack, fIfS, fB, fNot, fAnd, fOr, fAndV, fOrV, fNext, fIf, fX, fLst, fTup, fMov, fPar, gs2, gs3, gT, gsCons, gsNil, fYes, gAdd_i, gLt_i, gSub_i, gDiv_i, gMod_i, gGt_i, gLe_i, gGe_i, gInt_i, gNeg_i, gAbs_i, gMax_i, gMin_i, OD.val, valL, valL_st, fItS, fFor, fLc, wipeR, fPart, fNoPart, fSl, fAppend, fExtend, fPop, fGet2, fD1, fDNew, keyD, gSetQ, gSetI, gSetD, stK_map, fItR1, fLRg, List.getElem?_cons_succ, List.getElem?_cons_zero, List.set_cons_succ, List.set_cons_zero, List.length_cons, List.length_nil, List.map_cons, List.map_nil, Option.map_some, Option.map_none, Nat.zero_add, Nat.reduceAdd, Nat.reduceLT, Nat.reduceEqDiff, and_self, big0, big1, big2, big3, big4, big5, if_true, if_false, ite_true, ite_false, Bool.not_true, Bool.not_false, Bool.true_and, Bool.false_and,SpB1, ek, hv, ea, evl, if_pos hb]
      · rw [if_neg h0] at hv
        have ea : gAdd (.st (.lst (iD (tgs (E.take j) E[j].1)))) (.ol [.st (.int E[j].2)]) = some (.ol ((iD (tgs (E.take j) E[j].1 ++ [E[j].2])).map .st)) := by
          rw [gAdd_l (xs := iD (tgs (E.take j) E[j].1)) (ys := [.int E[j].2]) rfl rfl (by simp [big]; omega)]
          simp [iD]
        have evl := val_ol (iD (tgs (E.take j) E[j].1 ++ [E[j].2]))
        simp only [runM, outsOf, fSeq, fRet, fAsg, gN, fFz, fPeek, fBack, fDrop, fBin, fUn, fC, fCons, fNil, fLend, fCall, fCallK, pick, List.filterMap_cons, List.filterMap_nil, putBack, fIfS, fB, fNot, fAnd, fOr, fAndV, fOrV, fNext, fIf, fX, fLst, fTup, fMov, fPar, gs2, gs3, gT, gsCons, gsNil, fYes, gAdd_i, gLt_i, gSub_i, gDiv_i, gMod_i, gGt_i, gLe_i, gGe_i, gInt_i, gNeg_i, gAbs_i, gMax_i, gMin_i, OD.val, valL, valL_st, fItS, fFor, fLc, wipeR, fPart, fNoPart, fSl, fAppend, fExtend, fPop, fGet2, fD1, fDNew, keyD, gSetQ, gSetI, gSetD, stK_map, fItR1, fLRg, List.getElem?_cons_succ, List.getElem?_cons_zero, List.set_cons_succ, List.set_cons_zero, List.length_cons, List.length_nil, List.map_cons, List.map_nil, Option.map_some, Option.map_none, Nat.zero_add, Nat.reduceAdd, Nat.reduceLT, Nat.reduceEqDiff, and_self, big0, big1, big2, big3, big4, big5, if_true, if_false, ite_true, ite_false, Bool.not_true, Bool.not_false, Bool.true_and, Bool.false_and,SpB1, ek, hv, ea, evl, if_pos hb])
  obtain ⟨ρ', e1, ds, s3, s4, hg, _, rfl⟩ := lp
  refine ⟨ds, s3, s4, e1, ?_⟩
  have : E.take (0 + (pD E).length) = E := by simp [pD]
  rwa [this] at hg
abbrev SpC : Ft := (fB (fBin gNe (fP 6) (fE (fLst fNil))))
abbrev SpB3 : Fs := (fIfS (fB (fBin (gDIn true) (fP 7) (fP 5))) (fSeq (fAsg (fC (.bl true)) (gSetQ 5 (fFz (fP 7)))) (fX (fAppend 6 (fFz (fP 7))))) fNext)
abbrev SpB2 : Fs := (fFor (fItS (fFz (fE (fGet2 (fP 2) (fFz (fE (fPop 6))) (fLst fNil))))) (gN 7) SpB3)
theorem rd_kB (ks : List Int) : OD.rd (.oK (stD (kB ks))) = some (.dK (kB ks)) := by
  show (stK _).map D.dK = _
  rw [stK_map]
  rfl
/-- one goal -/
theorem spreadG {x0 x1 x2 x3 x4 : Option OD} {ks wt : List Int} {g : Int} (hk : ks.length ≤ 1000) (hw : wt.length ≤ 1000) :
    SpB3 [x0, x1, x2, x3, x4, some (.oK (stD (kB ks))), some (iO wt), some (.st (.int g))] =
      some (.nx [x0, x1, x2, x3, x4, some (.oK (stD (kB (if g ∈ ks then ks else ks ++ [g])))), some (iO (if g ∈ ks then wt else wt ++ [g])), some (.st (.int g))]) := by
  have hi : gDIn true (.st (.int g)) (.oK (stD (kB ks))) = some (.st (.bl (!decide (g ∈ ks)))) := by
    unfold gDIn
    rw [rd_kB]
    simp only [keyD, valA_kB]
    simp
  have b1 : (kB ks).length ≤ big := by simp [big]; omega
  have b2 : ((iD wt).map OD.st).length ≤ big := by simp [big]; omega
  by_cases h : g ∈ ks
  · rw [if_pos h, if_pos h]
    have hd : decide (g ∈ ks) = true := by simpa using h
    rw [hd] at hi
    simp only [runM, outsOf, fSeq, fRet, fAsg, gN, fFz, fPeek, fBack, fDrop, fBin, fUn, fC, fCons, fNil, fLend, fCall, fCallK, pick, List.filterMap_cons, List.filterMap_nil, putBack, fIfS, fB, fNot, fAnd, fOr, fAndV, fOrV, fNext, fIf, fX, fLst, fTup, fMov, fPar, gs2, gs3, gT, gsCons, gsNil, fYes, gAdd_i, gLt_i, gSub_i, gDiv_i, gMod_i, gGt_i, gLe_i, gGe_i, gInt_i, gNeg_i, gAbs_i, gMax_i, gMin_i, OD.val, valL, valL_st, fItS, fFor, fLc, wipeR, fPart, fNoPart, fSl, fAppend, fExtend, fPop, fGet2, fD1, fDNew, keyD, gSetQ, gSetI, gSetD, stK_map, fItR1, fLRg, List.getElem?_cons_succ, List.getElem?_cons_zero, List.set_cons_succ, List.set_cons_zero, List.length_cons, List.length_nil, List.map_cons, List.map_nil, Option.map_some, Option.map_none, Nat.zero_add, Nat.reduceAdd, Nat.reduceLT, Nat.reduceEqDiff, and_self, big0, big1, big2, big3, big4, big5, if_true, if_false, ite_true, ite_false, Bool.not_true, Bool.not_false, Bool.true_and, Bool.false_and,SpB3, hi]
  · rw [if_neg h, if_neg h]
    have hd : decide (g ∈ ks) = false := by simpa using h
    rw [hd] at hi
    have ha : (iD wt).map OD.st ++ [.st (.int g)] = (iD (wt ++ [g])).map OD.st := by simp
    simp only [runM, outsOf, fSeq, fRet, fAsg, gN, fFz, fPeek, fBack, fDrop, fBin, fUn, fC, fCons, fNil, fLend, fCall, fCallK, pick, List.filterMap_cons, List.filterMap_nil, putBack, fIfS, fB, fNot, fAnd, fOr, fAndV, fOrV, fNext, fIf, fX, fLst, fTup, fMov, fPar, gs2, gs3, gT, gsCons, gsNil, fYes, gAdd_i, gLt_i, gSub_i, gDiv_i, gMod_i, gGt_i, gLe_i, gGe_i, gInt_i, gNeg_i, gAbs_i, gMax_i, gMin_i, OD.val, valL, valL_st, fItS, fFor, fLc, wipeR, fPart, fNoPart, fSl, fAppend, fExtend, fPop, fGet2, fD1, fDNew, keyD, gSetQ, gSetI, gSetD, stK_map, fItR1, fLRg, List.getElem?_cons_succ, List.getElem?_cons_zero, List.set_cons_succ, List.set_cons_zero, List.length_cons, List.length_nil, List.map_cons, List.map_nil, Option.map_some, Option.map_none, Nat.zero_add, Nat.reduceAdd, Nat.reduceLT, Nat.reduceEqDiff, and_self, big0, big1, big2, big3, big4, big5, if_true, if_false, ite_true, ite_false, Bool.not_true, Bool.not_false, Bool.true_and, Bool.false_and,SpB3, hi, if_pos b1, put_new h, if_pos b2, ha]
/-- all goals of one place -/
theorem spreadF {x0 x1 x2 x3 x4 : Option OD} : ∀ (gs ks wt : List Int) (s7 : Option OD), ks.length + gs.length ≤ 1000 → wt.length + gs.length ≤ 1000 → ks.Nodup →
    ∃ new s7', loopF (gN 7) SpB3 (iD gs) [x0, x1, x2, x3, x4, some (.oK (stD (kB ks))), some (iO wt), s7] = some (.nx [x0, x1, x2, x3, x4, some (.oK (stD (kB (ks ++ new)))), some (iO (wt ++ new)), s7']) ∧
      (ks ++ new).Nodup ∧ (∀ x ∈ new, x ∈ gs) ∧ ∀ x ∈ gs, x ∈ ks ++ new
  | [], ks, wt, s7, _, _, nd => ⟨[], s7, by simp [loopF], by simpa using nd, (fun _ z => nomatch z), fun _ z => nomatch z⟩
  | g :: gs, ks, wt, s7, h1, h2, nd => by
    simp only [List.length_cons] at h1 h2
    have eg : gN 7 (.st (.int g)) [x0, x1, x2, x3, x4, some (.oK (stD (kB ks))), some (iO wt), s7] = some [x0, x1, x2, x3, x4, some (.oK (stD (kB ks))), some (iO wt), some (.st (.int g))] := by simp [gN]
    have eb := spreadG (x0 := x0) (x1 := x1) (x2 := x2) (x3 := x3) (x4 := x4) (ks := ks) (wt := wt) (g := g) (by omega) (by omega)
    by_cases h : g ∈ ks
    · rw [if_pos h, if_pos h] at eb
      obtain ⟨new, s7', e, n1, n2, n3⟩ := spreadF gs ks wt (some (.st (.int g))) (by omega) (by omega) nd
      refine ⟨new, s7', ?_, n1, fun x hx => List.mem_cons_of_mem _ (n2 x hx), fun x hx => ?_⟩
      · rw [← e]
        show loopF _ _ (.int g :: iD gs) _ = _
        simp only [loopF, eg, eb]
      · rcases List.mem_cons.mp hx with rfl | hx
        · exact List.mem_append_left _ h
        · exact n3 x hx
    · rw [if_neg h, if_neg h] at eb
      obtain ⟨new, s7', e, n1, n2, n3⟩ := spreadF gs (ks ++ [g]) (wt ++ [g]) (some (.st (.int g))) (by simp; omega) (by simp; omega) (by
        rw [List.nodup_append]
        exact ⟨nd, by simp, fun a ha b hb => by
          have : b = g := by simpa using hb
          subst this
          exact fun z => h (z ▸ ha)⟩)
      rw [List.append_assoc, List.append_assoc] at e
      rw [List.append_assoc] at n1 n3
      refine ⟨[g] ++ new, s7', ?_, n1, fun x hx => ?_, fun x hx => ?_⟩
      · rw [← e]
        show loopF _ _ (.int g :: iD gs) _ = _
        simp only [loopF, eg, eb]
      · rcases List.mem_append.mp hx with hx | hx
        · have : x = g := by simpa using hx
          subst this; exact List.mem_cons_self
        · exact List.mem_cons_of_mem _ (n2 x hx)
      · rcases List.mem_cons.mp hx with rfl | hx
        · simp
        · exact n3 x hx
structure SpI (E : List (Int × Int)) (s : Int) (ks wt : List Int) : Prop where
  nd : ks.Nodup
  rc : ∀ x ∈ ks, Rch E s x
  sub : ∀ x ∈ wt, x ∈ ks
  has : s ∈ ks
  cl : ∀ a ∈ ks, a ∉ wt → ∀ b, (a, b) ∈ E → b ∈ ks
theorem spread2 {E : List (Int × Int)} {s : Int} {n : Nat} {x0 x1 x3 x4 : Option OD} {ds : List (Key × D)} (hg : GoalOk E ds) (hE : E.length ≤ 500) (hn : n ≤ 60) (hb : ∀ x, Rch E s x → 0 ≤ x ∧ x < (n : Int)) :
    ∃ ks ρ', loopW SpC SpB2 1000000 [x0, x1, some (.oK (stD ds)), x3, x4, some (.oK (stD (kB [s]))), some (iO [s]), none] = some (.nx ρ') ∧ ρ'[5]? = some (some (.oK (stD (kB ks)))) ∧ ρ'.length = 8 ∧ (∃ s7, ρ' = [x0, x1, some (.oK (stD ds)), x3, x4, some (.oK (stD (kB ks))), some (iO []), s7]) ∧
      ks.Nodup ∧ ∀ x, x ∈ ks ↔ Rch E s x := by
  have hlen : ∀ ks : List Int, ks.Nodup → (∀ x ∈ ks, Rch E s x) → ks.length ≤ n := fun ks nd h => nodup_le n ks nd fun x hx => hb x (h x hx)
  obtain ⟨⟨ks, wt, s7⟩, ρ', e, hI, ec⟩ := loopW_st (τ := List Int × List Int × Option OD) (c := SpC) (body := SpB2)
    (fun q => [x0, x1, some (.oK (stD ds)), x3, x4, some (.oK (stD (kB q.1))), some (iO q.2.1), q.2.2])
    (fun q => SpI E s q.1 q.2.1 ∧ q.2.1.length ≤ q.1.length) (fun q => 2 * (n - q.1.length) + q.2.1.length) (by
      rintro ⟨ks, wt, s7⟩ ⟨hI, hwk⟩
      simp only at hI hwk ⊢
      have hne := neI0 wt
      have hkn := hlen ks hI.nd hI.rc
      by_cases hw : wt = []
      · left
        refine ⟨[x0, x1, some (.oK (stD ds)), x3, x4, some (.oK (stD (kB ks))), some (iO wt), s7], ?_⟩
        have hd : decide (wt = []) = true := by simpa using hw
        rw [hd] at hne
        simp only [runM, outsOf, fSeq, fRet, fAsg, gN, fFz, fPeek, fBack, fDrop, fBin, fUn, fC, fCons, fNil, fLend, fCall, fCallK, pick, List.filterMap_cons, List.filterMap_nil, putBack, fIfS, fB, fNot, fAnd, fOr, fAndV, fOrV, fNext, fIf, fX, fLst, fTup, fMov, fPar, gs2, gs3, gT, gsCons, gsNil, fYes, gAdd_i, gLt_i, gSub_i, gDiv_i, gMod_i, gGt_i, gLe_i, gGe_i, gInt_i, gNeg_i, gAbs_i, gMax_i, gMin_i, OD.val, valL, valL_st, fItS, fFor, fLc, wipeR, fPart, fNoPart, fSl, fAppend, fExtend, fPop, fGet2, fD1, fDNew, keyD, gSetQ, gSetI, gSetD, stK_map, fItR1, fLRg, List.getElem?_cons_succ, List.getElem?_cons_zero, List.set_cons_succ, List.set_cons_zero, List.length_cons, List.length_nil, List.map_cons, List.map_nil, Option.map_some, Option.map_none, Nat.zero_add, Nat.reduceAdd, Nat.reduceLT, Nat.reduceEqDiff, and_self, big0, big1, big2, big3, big4, big5, if_true, if_false, ite_true, ite_false, Bool.not_true, Bool.not_false, Bool.true_and, Bool.false_and,SpC, hne]
      · right
        have hd : decide (wt = []) = false := by simpa using hw
        rw [hd] at hne
        obtain ⟨w0, a, rfl⟩ : ∃ w0 a, wt = w0 ++ [a] := ⟨wt.dropLast, wt.getLast hw, (List.dropLast_concat_getLast hw).symm⟩
        have hak : a ∈ ks := hI.sub a (by simp)
        have hgs : ∀ b ∈ tgs E a, (a, b) ∈ E := fun b hb => tgs_mem.mp hb
        have htl := tgs_len E a
        have hw0 : w0.length ≤ 60 := by simp at hwk; omega
        obtain ⟨new, s7', e1, n1, n2, n3⟩ := spreadF (x0 := x0) (x1 := x1) (x2 := some (.oK (stD ds))) (x3 := x3) (x4 := x4) (tgs E a) ks w0 s7 (by omega) (by omega) hI.nd
        have hrc : ∀ x ∈ ks ++ new, Rch E s x := fun x hx => by
          rcases List.mem_append.mp hx with hx | hx
          · exact hI.rc x hx
          · exact .step (hI.rc a hak) (hgs x (n2 x hx))
        have hl2 := hlen (ks ++ new) n1 hrc
        refine ⟨[x0, x1, some (.oK (stD ds)), x3, x4, some (.oK (stD (kB ks))), some (iO (w0 ++ [a])), s7], (ks ++ new, w0 ++ new, s7'), ?_, ?_, ⟨⟨n1, hrc, fun x hx => ?_, List.mem_append_left _ hI.has, fun c hc hcw b hcb => ?_⟩, ?_⟩, ?_⟩
        · simp only [runM, outsOf, fSeq, fRet, fAsg, gN, fFz, fPeek, fBack, fDrop, fBin, fUn, fC, fCons, fNil, fLend, fCall, fCallK, pick, List.filterMap_cons, List.filterMap_nil, putBack, fIfS, fB, fNot, fAnd, fOr, fAndV, fOrV, fNext, fIf, fX, fLst, fTup, fMov, fPar, gs2, gs3, gT, gsCons, gsNil, fYes, gAdd_i, gLt_i, gSub_i, gDiv_i, gMod_i, gGt_i, gLe_i, gGe_i, gInt_i, gNeg_i, gAbs_i, gMax_i, gMin_i, OD.val, valL, valL_st, fItS, fFor, fLc, wipeR, fPart, fNoPart, fSl, fAppend, fExtend, fPop, fGet2, fD1, fDNew, keyD, gSetQ, gSetI, gSetD, stK_map, fItR1, fLRg, List.getElem?_cons_succ, List.getElem?_cons_zero, List.set_cons_succ, List.set_cons_zero, List.length_cons, List.length_nil, List.map_cons, List.map_nil, Option.map_some, Option.map_none, Nat.zero_add, Nat.reduceAdd, Nat.reduceLT, Nat.reduceEqDiff, and_self, big0, big1, big2, big3, big4, big5, if_true, if_false, ite_true, ite_false, Bool.not_true, Bool.not_false, Bool.true_and, Bool.false_and,SpC, hne]
        · have hv := hg a
          have ek : OD.rd (.oK (stD ds)) = some (.dK ds) := by
            show (stK _).map D.dK = _
            rw [stK_map]
            rfl
          have el : ((iD (w0 ++ [a])).map OD.st).getLast? = some (.st (.int a)) := by simp
          have edl : ((iD (w0 ++ [a])).map OD.st).dropLast = (iD w0).map OD.st := by simp [iD]
          simp only
          by_cases h0 : tgs E a = []
          · rw [if_pos h0] at hv
            rw [h0] at e1
            simp only [runM, outsOf, fSeq, fRet, fAsg, gN, fFz, fPeek, fBack, fDrop, fBin, fUn, fC, fCons, fNil, fLend, fCall, fCallK, pick, List.filterMap_cons, List.filterMap_nil, putBack, fIfS, fB, fNot, fAnd, fOr, fAndV, fOrV, fNext, fIf, fX, fLst, fTup, fMov, fPar, gs2, gs3, gT, gsCons, gsNil, fYes, gAdd_i, gLt_i, gSub_i, gDiv_i, gMod_i, gGt_i, gLe_i, gGe_i, gInt_i, gNeg_i, gAbs_i, gMax_i, gMin_i, OD.val, valL, valL_st, fItS, fFor, fLc, wipeR, fPart, fNoPart, fSl, fAppend, fExtend, fPop, fGet2, fD1, fDNew, keyD, gSetQ, gSetI, gSetD, stK_map, fItR1, fLRg, List.getElem?_cons_succ, List.getElem?_cons_zero, List.set_cons_succ, List.set_cons_zero, List.length_cons, List.length_nil, List.map_cons, List.map_nil, Option.map_some, Option.map_none, Nat.zero_add, Nat.reduceAdd, Nat.reduceLT, Nat.reduceEqDiff, and_self, big0, big1, big2, big3, big4, big5, if_true, if_false, ite_true, ite_false, Bool.not_true, Bool.not_false, Bool.true_and, Bool.false_and,SpB2, el, edl, ek, hv]
            exact e1
          · rw [if_neg h0] at hv
            simp only [runM, outsOf, fSeq, fRet, fAsg, gN, fFz, fPeek, fBack, fDrop, fBin, fUn, fC, fCons, fNil, fLend, fCall, fCallK, pick, List.filterMap_cons, List.filterMap_nil, putBack, fIfS, fB, fNot, fAnd, fOr, fAndV, fOrV, fNext, fIf, fX, fLst, fTup, fMov, fPar, gs2, gs3, gT, gsCons, gsNil, fYes, gAdd_i, gLt_i, gSub_i, gDiv_i, gMod_i, gGt_i, gLe_i, gGe_i, gInt_i, gNeg_i, gAbs_i, gMax_i, gMin_i, OD.val, valL, valL_st, fItS, fFor, fLc, wipeR, fPart, fNoPart, fSl, fAppend, fExtend, fPop, fGet2, fD1, fDNew, keyD, gSetQ, gSetI, gSetD, stK_map, fItR1, fLRg, List.getElem?_cons_succ, List.getElem?_cons_zero, List.set_cons_succ, List.set_cons_zero, List.length_cons, List.length_nil, List.map_cons, List.map_nil, Option.map_some, Option.map_none, Nat.zero_add, Nat.reduceAdd, Nat.reduceLT, Nat.reduceEqDiff, and_self, big0, big1, big2, big3, big4, big5, if_true, if_false, ite_true, ite_false, Bool.not_true, Bool.not_false, Bool.true_and, Bool.false_and,SpB2, el, edl, ek, hv]
            exact e1
        · rcases List.mem_append.mp hx with hx | hx
          · exact List.mem_append_left _ (hI.sub x (List.mem_append_left _ hx))
          · exact List.mem_append_right _ hx
        · have hcn : c ∉ new := fun z => hcw (List.mem_append_right _ z)
          have hck : c ∈ ks := by
            rcases List.mem_append.mp hc with h | h
            · exact h
            · exact absurd h hcn
          by_cases hca : c = a
          · subst hca
            exact n3 b (tgs_mem.mpr hcb)
          · refine List.mem_append_left _ (hI.cl c hck ?_ b hcb)
            intro z
            rcases List.mem_append.mp z with z | z
            · exact hcw (List.mem_append_left _ z)
            · exact hca (by simpa using z)
        · simp only [List.length_append, List.length_cons, List.length_nil] at hwk ⊢
          omega
        · simp only [List.length_append, List.length_cons, List.length_nil] at hl2 hkn ⊢
          omega)
    1000000 ([s], [s], none) ⟨⟨by simp, fun x hx => by
      have : x = s := by simpa using hx
      subst this; exact .here, fun x hx => hx, by simp, fun a ha hn => absurd ha hn⟩, Nat.le_refl _⟩ (by simp only [List.length_cons, List.length_nil]; omega)
  obtain ⟨hI, hwk⟩ := hI
  simp only at hI hwk ec
  have hne := neI0 wt
  have hw : wt = [] := by
    by_cases hw : wt = []
    · exact hw
    · have hd : decide (wt = []) = false := by simpa using hw
      rw [hd] at hne
      simp [SpC, fB, fBin, fP, fPeek, fBack, fE, fLst, fNil, fDrop, hne] at ec
  subst hw
  have hd : decide (([] : List Int) = []) = true := by simp
  rw [hd] at hne
  simp only [runM, outsOf, fSeq, fRet, fAsg, gN, fFz, fPeek, fBack, fDrop, fBin, fUn, fC, fCons, fNil, fLend, fCall, fCallK, pick, List.filterMap_cons, List.filterMap_nil, putBack, fIfS, fB, fNot, fAnd, fOr, fAndV, fOrV, fNext, fIf, fX, fLst, fTup, fMov, fPar, gs2, gs3, gT, gsCons, gsNil, fYes, gAdd_i, gLt_i, gSub_i, gDiv_i, gMod_i, gGt_i, gLe_i, gGe_i, gInt_i, gNeg_i, gAbs_i, gMax_i, gMin_i, OD.val, valL, valL_st, fItS, fFor, fLc, wipeR, fPart, fNoPart, fSl, fAppend, fExtend, fPop, fGet2, fD1, fDNew, keyD, gSetQ, gSetI, gSetD, stK_map, fItR1, fLRg, List.getElem?_cons_succ, List.getElem?_cons_zero, List.set_cons_succ, List.set_cons_zero, List.length_cons, List.length_nil, List.map_cons, List.map_nil, Option.map_some, Option.map_none, Nat.zero_add, Nat.reduceAdd, Nat.reduceLT, Nat.reduceEqDiff, and_self, big0, big1, big2, big3, big4, big5, if_true, if_false, ite_true, ite_false, Bool.not_true, Bool.not_false, Bool.true_and, Bool.false_and,SpC, hne] at ec
  cases ec
  refine ⟨ks, _, e, rfl, rfl, ⟨s7, rfl⟩, hI.nd, fun x => ⟨hI.rc x, fun h => ?_⟩⟩
  exact h.closed (P := fun y => y ∈ ks) hI.has fun a b ha hab => hI.cl a ha (fun z => nomatch z) b hab
theorem spread_ok {E : List (Int × Int)} {s : Int} {n : Nat} (hE : E.length ≤ 500) (hn : n ≤ 60) (hb : ∀ x, Rch E s x → 0 ≤ x ∧ x < (n : Int)) :
    m_spread [.st (.lst (pD E)), .st (.int s)] = some (iO (rl E n s), [none, none]) := by
  obtain ⟨ds, s3, s4, e1, hg⟩ := spread1 (E := E) (L := .st (.lst (pD E))) (S := .st (.int s)) (by omega)
  obtain ⟨ks, ρ', e2, _, _, ⟨s7, rfl⟩, nd, hm⟩ := spread2 (x0 := some (.st (.lst (pD E)))) (x1 := some (.st (.int s))) (x3 := s3) (x4 := s4) hg hE hn hb
  have hks : ks.length ≤ n := nodup_le n ks nd fun x hx => hb x ((hm x).mp hx)
  have e3 := sortedD_kB (ks := ks) (by omega)
  rw [sort_rl nd hb hm] at e3
  have e0 : rho0 N_spread [.st (.lst (pD E)), .st (.int s)] = [some (.st (.lst (pD E))), some (.st (.int s)), none, none, none, none, none, none] := rfl
  simp only [SpB1] at e1
  have e2 : loopW SpC SpB2 1000000 [some (.st (.lst (pD E))), some (.st (.int s)), some (.oK (stD ds)), s3, s4, some (.oK [(.inl s, .st (.bl true))]), some (.ol [.st (.int s)]), none] = _ := e2
  simp only [SpC, SpB2, SpB3] at e2
  simp only [runM, outsOf, fSeq, fRet, fAsg, gN, fFz, fPeek, fBack, fDrop, fBin, fUn, fC, fCons, fNil, fLend, fCall, fCallK, pick, List.filterMap_cons, List.filterMap_nil, putBack, fIfS, fB, fNot, fAnd, fOr, fAndV, fOrV, fNext, fIf, fX, fLst, fTup, fMov, fPar, gs2, gs3, gT, gsCons, gsNil, fYes, gAdd_i, gLt_i, gSub_i, gDiv_i, gMod_i, gGt_i, gLe_i, gGe_i, gInt_i, gNeg_i, gAbs_i, gMax_i, gMin_i, OD.val, valL, valL_st, fItS, fFor, fLc, wipeR, fPart, fNoPart, fSl, fAppend, fExtend, fPop, fGet2, fD1, fDNew, keyD, gSetQ, gSetI, gSetD, stK_map, fItR1, fLRg, List.getElem?_cons_succ, List.getElem?_cons_zero, List.set_cons_succ, List.set_cons_zero, List.length_cons, List.length_nil, List.map_cons, List.map_nil, Option.map_some, Option.map_none, Nat.zero_add, Nat.reduceAdd, Nat.reduceLT, Nat.reduceEqDiff, and_self, big0, big1, big2, big3, big4, big5, if_true, if_false, ite_true, ite_false, Bool.not_true, Bool.not_false, Bool.true_and, Bool.false_and,m_spread, F_spread, e0, e1, e2, e3]
end Lw
set_option Elab.async false
set_option linter.all false
set_option maxRecDepth 100000
set_option maxHeartbeats 400000
namespace Lw
open PySem L2 Qy
theorem leD_int (a b : Int) : leD (.int a) (.int b) = decide (a ≤ b) := by
  show (!PyProof.Rows.lexLt PyProof.Rows.itemOrd [Sum.inl b] [Sum.inl a]) = _
  have : PyProof.Rows.lexLt PyProof.Rows.itemOrd [Sum.inl b] [Sum.inl a] = decide (b < a) := by
    rw [PyProof.Rows.lex_cons]
    show (decide (b < a) || (!decide (a < b) && false)) = _
    simp
  rw [this]
  by_cases h : b < a
  · have : ¬ a ≤ b := by omega
    simp [h, this]
  · have : a ≤ b := by omega
    simp [h, this]
theorem sortOk_i (ks : List Int) : sortOk (iD ks) := by
  refine ⟨fun d hd => ?_, fun d hd d' hd' => ?_, .inr fun d hd => ?_, fun d hd => ?_⟩
  · obtain ⟨i, _, rfl⟩ := List.mem_map.mp hd; rfl
  · obtain ⟨e, he, rfl⟩ := List.mem_map.mp hd
    obtain ⟨e', he', rfl⟩ := List.mem_map.mp hd'
    obtain ⟨i, _, rfl⟩ := List.mem_map.mp he
    obtain ⟨i', _, rfl⟩ := List.mem_map.mp he'
    rfl
  · obtain ⟨e, he, rfl⟩ := List.mem_map.mp hd
    obtain ⟨i, _, rfl⟩ := List.mem_map.mp he
    exact ⟨(fun z => nomatch z), fun xs z => nomatch z⟩
  · obtain ⟨i, _, rfl⟩ := List.mem_map.mp hd
    exact Nat.zero_le _
theorem msort_i (ks : List Int) : (iD ks).mergeSort leD = iD (sortI ks) := by
  have p1 := List.mergeSort_perm (iD ks) leD
  have p2 : (iD (sortI ks)).Perm (iD ks) := (sortI_perm ks).map _
  refine List.Perm.eq_of_pairwise (le := fun a b => leD a b = true) (fun a b ha hb h1 h2 => ?_) (sorted_leD (iD ks)) ?_ (p1.trans p2.symm)
  · obtain ⟨i, _, rfl⟩ := List.mem_map.mp (p1.mem_iff.mp ha)
    obtain ⟨j, _, rfl⟩ := List.mem_map.mp hb
    rw [leD_int] at h1 h2
    have h1' : i ≤ j := by simpa using h1
    have h2' : j ≤ i := by simpa using h2
    rw [Int.le_antisymm h1' h2']
  · rw [List.pairwise_map]
    exact (sortI_sorted ks).imp fun h => by rw [leD_int]; simpa using h
theorem sorted_i (ks : List Int) : gSorted (iO ks) = some (iO (sortI ks)) := by
  unfold gSorted
  rw [rd_ol]
  simp only
  rw [if_pos (sortOk_i ks), msort_i]
/-- bridges: from, to, the word -/
abbrev Tri := Int × Int × Str
abbrev tD (B : List Tri) : List D := B.map fun t => .tup [.int t.1, .int t.2.1, .str t.2.2]
abbrev eB (B : List Tri) : List (Int × Int) := B.map fun t => (t.1, t.2.1)
theorem seq_iO (ks : List Int) : IsSeq (iO ks) (ks.map .int) := .inl (rd_ol _)
theorem seq_iT (ks : List Int) : IsSeq (.st (.tup (iD ks))) (ks.map .int) := .inr rfl
abbrev tupT (t : Tri) : D := .tup [.int t.1, .int t.2.1, .str t.2.2]
def rawT (q : List Nat) (ws : List (List Nat)) : List Tri := ws.flatMap fun w => (occ q w).map fun (p : Nat) => ((p : Int), (p : Int) + (w.length : Int), tx w)
theorem raw_tD (q : List Nat) (ws : List (List Nat)) : raw q ws = tD (rawT q ws) := by
  unfold raw rawT tD brs
  rw [List.map_flatMap]
  congr 1
  funext w
  rw [List.map_map]
  rfl
def leT (a b : Tri) : Bool := leD (tupT a) (tupT b)
/-- the bridges, sorted -/
def bT (q : List Nat) (ws : List (List Nat)) : List Tri := (rawT q ws).mergeSort leT
theorem sort_tD (q : List Nat) (ws : List (List Nat)) : (raw q ws).mergeSort leD = tD (bT q ws) := by
  rw [raw_tD]
  unfold bT tD
  exact (List.map_mergeSort (f := fun t : Tri => D.tup [.int t.1, .int t.2.1, .str t.2.2]) (r := leT) (s := leD) (fun a _ b _ => rfl)).symm
theorem bT_mem {q : List Nat} {ws : List (List Nat)} {t : Tri} : t ∈ bT q ws ↔ ∃ w ∈ ws, ∃ p ∈ occ q w, t = ((p : Int), (p : Int) + (w.length : Int), tx w) := by
  unfold bT
  rw [(List.mergeSort_perm _ _).mem_iff]
  unfold rawT
  rw [List.mem_flatMap]
  constructor
  · rintro ⟨w, hw, h⟩
    obtain ⟨p, hp, rfl⟩ := List.mem_map.mp h
    exact ⟨w, hw, p, hp, rfl⟩
  · rintro ⟨w, hw, p, hp, rfl⟩
    exact ⟨w, hw, List.mem_map.mpr ⟨p, hp, rfl⟩⟩
theorem occ_le {q w : List Nat} {p : Nat} (h : p ∈ occ q w) : p + w.length ≤ q.length := by
  unfold occ at h
  have := List.mem_range.mp (List.mem_filter.mp h).1
  omega
theorem rawT_len (q : List Nat) : ∀ ws : List (List Nat), (rawT q ws).length ≤ (q.length + 1) * ws.length
  | [] => by simp [rawT]
  | w :: r => by
    have ih := rawT_len q r
    have := occ_len q w
    unfold rawT at ih ⊢
    rw [List.flatMap_cons, List.length_append, List.length_map, List.length_cons, Nat.mul_succ]
    omega
theorem bT_len (q : List Nat) (ws : List (List Nat)) : (bT q ws).length ≤ (q.length + 1) * ws.length := by
  unfold bT
  rw [List.length_mergeSort]
  exact rawT_len q ws
/-- links of a question with so many places -/
structure LnkOk (n : Nat) (B : List Tri) : Prop where
  lt : ∀ t ∈ B, 0 ≤ t.1 ∧ t.1 < t.2.1 ∧ t.2.1 < (n : Int)
  len : B.length ≤ 250
  n0 : n ≤ 25
theorem bT_ok {q : List Nat} {ws : List (List Nat)} (hw : ∀ w ∈ ws, w ≠ []) (hq : q.length ≤ 24) (hl : ws.length ≤ 10) : LnkOk (q.length + 1) (bT q ws) := by
  refine ⟨fun t ht => ?_, ?_, by omega⟩
  · obtain ⟨w, hw', p, hp, rfl⟩ := bT_mem.mp ht
    have h1 := occ_le hp
    have h2 := List.length_pos_iff.mpr (hw w hw')
    refine ⟨by simp, by simp only; omega, by simp only; omega⟩
  · have h1 := bT_len q ws
    have : (q.length + 1) * ws.length ≤ 25 * 10 := Nat.mul_le_mul (by omega) hl
    omega
theorem LnkOk.bd {n : Nat} {B : List Tri} (h : LnkOk n B) {s : Int} (hs : 0 ≤ s ∧ s < (n : Int)) : ∀ x, Rch (both (eB B)) s x → 0 ≤ x ∧ x < (n : Int) := fun x hx =>
  hx.closed (P := fun y => 0 ≤ y ∧ y < (n : Int)) hs fun a b ha hab => by
    rcases both_mem.mp hab with h1 | h1
    · obtain ⟨t, ht, e⟩ := List.mem_map.mp h1
      have e1 : t.1 = a := congrArg Prod.fst e
      have e2 : t.2.1 = b := congrArg Prod.snd e
      have := h.lt t ht
      show 0 ≤ b ∧ b < (n : Int)
      omega
    · obtain ⟨t, ht, e⟩ := List.mem_map.mp h1
      have e1 : t.1 = b := congrArg Prod.fst e
      have e2 : t.2.1 = a := congrArg Prod.snd e
      have := h.lt t ht
      show 0 ≤ b ∧ b < (n : Int)
      omega
/-- the class of a place -/
noncomputable abbrev cl (n : Nat) (B : List Tri) (s : Int) : List Int := rl (both (eB B)) n s
theorem class_by_ok {n : Nat} {B : List Tri} (h : LnkOk n B) {s : Int} (hs : 0 ≤ s ∧ s < (n : Int)) : m_class_by [.st (.lst (tD B)), .st (.int s)] = some (iO (cl n B s), [none, none]) := by
  have b2 : 2 ≤ big := by decide
  have hB := h.len
  have e1 := compL_pure (own := [3, 4, 5]) (tg := (gT 3 (gsCons (gN 3) (gsCons (gN 4) (gsCons (gN 5) gsNil))))) (tt := fYes) (te := (fTup (fCons (fFz (fP 3)) (fCons (fFz (fP 4)) fNil)))) (ρ0 := [some (.st (.lst (tD B))), some (.st (.int s)), none, none, none, none])
    (p := fun _ => true) (g := fun d => match d with | .tup [.int a, .int b, .str _] => .st (.tup [.int a, .int b]) | _ => .st .non) (ds := tD B) (acc := []) (by
      intro d hd
      obtain ⟨t, ht, rfl⟩ := List.mem_map.mp hd
      refine ⟨[some (.st (.lst (tD B))), some (.st (.int s)), none, some (.st (.int t.1)), some (.st (.int t.2.1)), some (.st (.str t.2.2))], [some (.st (.lst (tD B))), some (.st (.int s)), none, some (.st (.int t.1)), some (.st (.int t.2.1)), some (.st (.str t.2.2))], by simp [gT, gsCons, gN, gsNil], rfl, (fun z => nomatch z), fun _ => ⟨[some (.st (.lst (tD B))), some (.st (.int s)), none, some (.st (.int t.1)), some (.st (.int t.2.1)), some (.st (.str t.2.2))], ?_, by simp [wipeR]⟩⟩
      simp [fTup, fCons, fNil, fFz, fPeek, fBack, OD.val, b2, valL]) (by simp [big]; omega)
  have e1' : ((tD B).filter fun _ => true).map (fun d => match d with | .tup [.int a, .int b, .str _] => OD.st (.tup [.int a, .int b]) | _ => .st .non) = (pD (eB B)).map .st := by
    rw [List.filter_eq_self.mpr (fun _ _ => rfl), List.map_map, List.map_map, List.map_map]
    rfl
  rw [List.nil_append, e1'] at e1
  have e2 := compL_pure (own := [3, 4]) (tg := (gT 2 (gsCons (gN 3) (gsCons (gN 4) gsNil)))) (tt := fYes) (te := (fTup (fCons (fFz (fP 4)) (fCons (fFz (fP 3)) fNil)))) (ρ0 := [some (.st (.lst (tD B))), some (.st (.int s)), some (.st (.lst (pD (eB B)))), none, none, none])
    (p := fun _ => true) (g := fun d => match d with | .tup [.int a, .int b] => .st (.tup [.int b, .int a]) | _ => .st .non) (ds := pD (eB B)) (acc := []) (by
      intro d hd
      obtain ⟨t, ht, rfl⟩ := List.mem_map.mp hd
      refine ⟨[some (.st (.lst (tD B))), some (.st (.int s)), some (.st (.lst (pD (eB B)))), some (.st (.int t.1)), some (.st (.int t.2)), none], [some (.st (.lst (tD B))), some (.st (.int s)), some (.st (.lst (pD (eB B)))), some (.st (.int t.1)), some (.st (.int t.2)), none], by simp [gT, gsCons, gN, gsNil], rfl, (fun z => nomatch z), fun _ => ⟨[some (.st (.lst (tD B))), some (.st (.int s)), some (.st (.lst (pD (eB B)))), some (.st (.int t.1)), some (.st (.int t.2)), none], ?_, by simp [wipeR]⟩⟩
      simp [fTup, fCons, fNil, fFz, fPeek, fBack, OD.val, b2, valL]) (by simp [big]; omega)
  have e2' : ((pD (eB B)).filter fun _ => true).map (fun d => match d with | .tup [.int a, .int b] => OD.st (.tup [.int b, .int a]) | _ => .st .non) = (pD ((eB B).map fun p => (p.2, p.1))).map .st := by
    rw [List.filter_eq_self.mpr (fun _ _ => rfl)]
    simp only [pD, List.map_map]
    rfl
  rw [List.nil_append, e2'] at e2
  have e3 : gAdd (.st (.lst (pD (eB B)))) (.ol ((pD ((eB B).map fun p => (p.2, p.1))).map .st)) = some (.ol ((pD (both (eB B))).map .st)) := by
    rw [gAdd_l (xs := pD (eB B)) (ys := pD ((eB B).map fun p => (p.2, p.1))) rfl (rd_ol _) (by simp [big]; omega)]
    unfold both pD
    rw [← List.map_append]
  have e4 := spread_ok (E := both (eB B)) (s := s) (n := n) (by unfold both; simp; omega) (by have := h.n0; omega) (h.bd hs)
  have e5 := val_ol (pD (eB B))
  have e6 := val_ol (pD (both (eB B)))
  have e0 : rho0 N_class_by [.st (.lst (tD B)), .st (.int s)] = [some (.st (.lst (tD B))), some (.st (.int s)), none, none, none, none] := rfl
  simp only [runM, outsOf, fSeq, fRet, fAsg, gN, fFz, fPeek, fBack, fDrop, fBin, fUn, fC, fCons, fNil, fLend, fCall, fCallK, pick, List.filterMap_cons, List.filterMap_nil, putBack, fIfS, fB, fNot, fAnd, fOr, fAndV, fOrV, fNext, fIf, fX, fLst, fTup, fMov, fPar, gs2, gs3, gT, gsCons, gsNil, fYes, gAdd_i, gLt_i, gSub_i, gDiv_i, gMod_i, gGt_i, gLe_i, gGe_i, gInt_i, gNeg_i, gAbs_i, gMax_i, gMin_i, OD.val, valL, valL_st, fItS, fFor, fLc, wipeR, fPart, fNoPart, fSl, fAppend, fExtend, fPop, fGet2, fD1, fDNew, keyD, gSetQ, gSetI, gSetD, stK_map, fItR1, fLRg, List.getElem?_cons_succ, List.getElem?_cons_zero, List.set_cons_succ, List.set_cons_zero, List.length_cons, List.length_nil, List.map_cons, List.map_nil, Option.map_some, Option.map_none, Nat.zero_add, Nat.reduceAdd, Nat.reduceLT, Nat.reduceEqDiff, and_self, big0, big1, big2, big3, big4, big5, if_true, if_false, ite_true, ite_false, Bool.not_true, Bool.not_false, Bool.true_and, Bool.false_and,m_class_by, F_class_by, e0, e1, e2, e3, e4]
end Lw
set_option Elab.async false
set_option linter.all false
set_option maxRecDepth 100000
set_option maxHeartbeats 400000
namespace Lw
open PySem L2 Qy
structure QOk (q : List Nat) : Prop where
  low : Low q
  ne : q ≠ []
  len : q.length ≤ 24
structure WOk (ws : List (List Nat)) : Prop where
  low : ∀ w ∈ ws, Low w
  ne : ∀ w ∈ ws, w ≠ []
  len : ∀ w ∈ ws, w.length ≤ 12
  num : ws.length ≤ 10
abbrev lotD (ws : List (List Nat)) : D := .ins "Lot" [("own_words", .tup (wD ws))]
theorem lot_words (ws : List (List Nat)) : gFld "Lot" "own_words" (.st (lotD ws)) = some (.st (.tup (wD ws))) := by
  simp [gFld, List.lookup]
theorem bridges_of_ok {q : List Nat} {ws : List (List Nat)} (hq : QOk q) (hw : WOk ws) : m_bridges_of [.st (lotD ws), .st (.str (tx q))] = some (.ol ((tD (bT q ws)).map .st), [none, none]) := by
  have e1 := bridges_by_ok (q := q) (ws := ws) (o := .st (.tup (wD ws))) (.inr rfl) hq.low.sm (by have := hq.len; omega) (fun w h => ⟨(hw.low w h).sm, by have := hw.len w h; omega⟩) (by have := hw.num; omega)
  rw [sort_tD] at e1
  have e0 : rho0 N_bridges_of [.st (lotD ws), .st (.str (tx q))] = [some (.st (lotD ws)), some (.st (.str (tx q)))] := rfl
  simp only [runM, outsOf, fSeq, fRet, fAsg, gN, fFz, fPeek, fBack, fDrop, fBin, fUn, fC, fCons, fNil, fLend, fCall, fCallK, pick, List.filterMap_cons, List.filterMap_nil, putBack, fIfS, fB, fNot, fAnd, fOr, fAndV, fOrV, fNext, fIf, fX, fLst, fTup, fMov, fPar, gs2, gs3, gT, gsCons, gsNil, fYes, gAdd_i, gLt_i, gSub_i, gDiv_i, gMod_i, gGt_i, gLe_i, gGe_i, gInt_i, gNeg_i, gAbs_i, gMax_i, gMin_i, OD.val, valL, valL_st, fItS, fFor, fLc, wipeR, fPart, fNoPart, fSl, fAppend, fExtend, fPop, fGet2, fD1, fDNew, keyD, gSetQ, gSetI, gSetD, stK_map, fItR1, fLRg, List.getElem?_cons_succ, List.getElem?_cons_zero, List.set_cons_succ, List.set_cons_zero, List.length_cons, List.length_nil, List.map_cons, List.map_nil, Option.map_some, Option.map_none, Nat.zero_add, Nat.reduceAdd, Nat.reduceLT, Nat.reduceEqDiff, and_self, big0, big1, big2, big3, big4, big5, if_true, if_false, ite_true, ite_false, Bool.not_true, Bool.not_false, Bool.true_and, Bool.false_and,m_bridges_of, F_bridges_of, e0, lot_words, e1]
theorem len_q {q : List Nat} (hq : q.length ≤ 24) : gLen (.st (.str (tx q))) = some (.st (.int (q.length : Int))) := by
  have hb : q.length ≤ big := by unfold big; omega
  simp [gLen, OD.rd, tx_len, hb]
theorem class_of_ok {q : List Nat} {ws : List (List Nat)} (hq : QOk q) (hw : WOk ws) {i : Int} (h0 : 0 ≤ i) (h1 : i ≤ (q.length : Int)) : m_class_of [.st (lotD ws), .st (.str (tx q)), .st (.int i)] = some (iO (cl (q.length + 1) (bT q ws) i), [none, none, none]) := by
  have e1 := bridges_of_ok hq hw
  have e2 := class_by_ok (bT_ok (q := q) hw.ne hq.len hw.num) (s := i) ⟨h0, by omega⟩
  have e0 : rho0 N_class_of [.st (lotD ws), .st (.str (tx q)), .st (.int i)] = [some (.st (lotD ws)), some (.st (.str (tx q))), some (.st (.int i))] := rfl
  simp only [runM, outsOf, fSeq, fRet, fAsg, gN, fFz, fPeek, fBack, fDrop, fBin, fUn, fC, fCons, fNil, fLend, fCall, fCallK, pick, List.filterMap_cons, List.filterMap_nil, putBack, fIfS, fB, fNot, fAnd, fOr, fAndV, fOrV, fNext, fIf, fX, fLst, fTup, fMov, fPar, gs2, gs3, gT, gsCons, gsNil, fYes, gAdd_i, gLt_i, gSub_i, gDiv_i, gMod_i, gGt_i, gLe_i, gGe_i, gInt_i, gNeg_i, gAbs_i, gMax_i, gMin_i, OD.val, valL, valL_st, fItS, fFor, fLc, wipeR, fPart, fNoPart, fSl, fAppend, fExtend, fPop, fGet2, fD1, fDNew, keyD, gSetQ, gSetI, gSetD, stK_map, fItR1, fLRg, List.getElem?_cons_succ, List.getElem?_cons_zero, List.set_cons_succ, List.set_cons_zero, List.length_cons, List.length_nil, List.map_cons, List.map_nil, Option.map_some, Option.map_none, Nat.zero_add, Nat.reduceAdd, Nat.reduceLT, Nat.reduceEqDiff, and_self, big0, big1, big2, big3, big4, big5, if_true, if_false, ite_true, ite_false, Bool.not_true, Bool.not_false, Bool.true_and, Bool.false_and,m_class_of, F_class_of, e0, e1, e2]
theorem eqI (a b : Int) : gEq (.st (.int a)) (.st (.int b)) = some (.st (.bl (decide (a = b)))) := by
  show some (OD.st (.bl (PyData.eqv (.int a) (.int b)))) = _
  have : PyData.eqv (.int a) (.int b) = decide (a = b) := by
    show (a == b) = _
    by_cases h : a = b
    · subst h; simp
    · simp [h]
  rw [this]
abbrev bD (bs : List Bool) : List D := bs.map .bl
theorem py_bools : ∀ bs : List Bool, pyL (bD bs) = some (bs.map .bool)
  | [] => rfl
  | c :: r => by
    show (match (D.bl c).py, pyL (bD r) with | some p, some ps => some (p :: ps) | _, _ => none) = _
    rw [py_bools r]
    rfl
theorem py_bO (bs : List Bool) : OD.py (.ol ((bD bs).map .st)) = some (.list (bs.map .bool)) := by
  show (OD.val (.ol ((bD bs).map .st))).py = _
  rw [val_ol]
  show (pyL (bD bs)).map PyData.list = _
  rw [py_bools]
  rfl
theorem rep_bools {n : Nat} {bs : List Bool} (h : bs.length ≤ n) : Rep n 1 (.list (bs.map .bool)) := by
  have := rep_list (w := 0) (k := 0) (n := n) (xs := bs.map .bool) (fun x hx => by
    obtain ⟨b, _, rfl⟩ := List.mem_map.mp hx
    exact rep_bool b) (by simpa using h)
  rw [Nat.zero_add, Nat.one_mul] at this
  exact this
theorem rng_mem {n : Nat} {d : D} (h : d ∈ rngD 0 n) : ∃ j : Nat, j < n ∧ d = .int (j : Int) := by
  obtain ⟨j, hj, rfl⟩ := List.mem_map.mp h
  exact ⟨j, List.mem_range.mp hj, by rw [Int.zero_add]⟩
theorem rng_eq (n : Nat) : rngD 0 n = (List.range n).map fun (j : Nat) => D.int (j : Int) := by
  unfold rngD
  refine List.map_congr_left fun j _ => ?_
  rw [Int.zero_add]
abbrev tupS (w : List Nat) : D := .tup [.int (w.length : Int), .str (tx w)]
/-- words, shorter ones first -/
def sw (ws : List (List Nat)) : List (List Nat) := ws.mergeSort fun a b => leD (tupS a) (tupS b)
theorem sw_perm (ws : List (List Nat)) : (sw ws).Perm ws := List.mergeSort_perm _ _
theorem sortOk_S (ws : List (List Nat)) : sortOk (ws.map tupS) := by
  have hp : ∀ d ∈ ws.map tupS, ∃ (a : Int) (x : Str), pyD d = .tuple [.int a, .str x] ∧ d.py.isSome = true := fun d hd => by
    obtain ⟨w, _, rfl⟩ := List.mem_map.mp hd
    exact ⟨_, _, rfl, rfl⟩
  refine ⟨fun d hd => ?_, fun d hd d' hd' => ?_, .inl fun d hd => ?_, fun d hd => ?_⟩
  · obtain ⟨_, _, _, h⟩ := hp d hd; exact h
  · obtain ⟨e, he, rfl⟩ := List.mem_map.mp hd
    obtain ⟨e', he', rfl⟩ := List.mem_map.mp hd'
    obtain ⟨_, _, h, _⟩ := hp e he
    obtain ⟨_, _, h', _⟩ := hp e' he'
    rw [h, h']
    rfl
  · obtain ⟨e, he, rfl⟩ := List.mem_map.mp hd
    obtain ⟨_, _, h, _⟩ := hp e he
    exact ⟨_, _, h⟩
  · obtain ⟨_, _, h, _⟩ := hp d hd
    rw [h]
    show (1 : Nat) ≤ 64
    decide
theorem len_w {w : List Nat} (h : w.length ≤ 100) : gLen (.st (.str (tx w))) = some (.st (.int (w.length : Int))) := by
  have hb : w.length ≤ big := by unfold big; omega
  simp [gLen, OD.rd, tx_len, hb]
theorem sorted_words_ok {ws : List (List Nat)} {o : OD} (ho : o = .st (.lst (wD ws)) ∨ o = .st (.tup (wD ws))) (hw : ∀ w ∈ ws, w.length ≤ 100) (hl : ws.length ≤ 100) : m_sorted_words [o] = some (wO (sw ws), [none]) := by
  have e1 := compL_pure (own := [2]) (tg := gN 2) (tt := fYes) (te := (fTup (fCons (fUn gLen (fP 2)) (fCons (fFz (fP 2)) fNil)))) (ρ0 := [some o, none, none])
    (p := fun _ => true) (g := fun d => match d with | .str x => .st (.tup [.int (x.length : Int), .str x]) | _ => .st .non) (ds := wD ws) (acc := []) (by
      intro d hd
      obtain ⟨w, hw', rfl⟩ := List.mem_map.mp hd
      have el := len_w (hw w hw')
      refine ⟨[some o, none, some (.st (.str (tx w)))], [some o, none, some (.st (.str (tx w)))], by simp [gN], rfl, (fun z => nomatch z), fun _ => ⟨[some o, none, some (.st (.str (tx w)))], ?_, by simp [wipeR]⟩⟩
      simp only [runM, outsOf, fSeq, fRet, fAsg, gN, fFz, fPeek, fBack, fDrop, fBin, fUn, fC, fCons, fNil, fLend, fCall, fCallK, pick, List.filterMap_cons, List.filterMap_nil, putBack, fIfS, fB, fNot, fAnd, fOr, fAndV, fOrV, fNext, fIf, fX, fLst, fTup, fMov, fPar, gs2, gs3, gT, gsCons, gsNil, fYes, gAdd_i, gLt_i, gSub_i, gDiv_i, gMod_i, gGt_i, gLe_i, gGe_i, gInt_i, gNeg_i, gAbs_i, gMax_i, gMin_i, OD.val, valL, valL_st, fItS, fFor, fLc, wipeR, fPart, fNoPart, fSl, fAppend, fExtend, fPop, fGet2, fD1, fDNew, keyD, gSetQ, gSetI, gSetD, stK_map, fItR1, fLRg, List.getElem?_cons_succ, List.getElem?_cons_zero, List.set_cons_succ, List.set_cons_zero, List.length_cons, List.length_nil, List.map_cons, List.map_nil, Option.map_some, Option.map_none, Nat.zero_add, Nat.reduceAdd, Nat.reduceLT, Nat.reduceEqDiff, and_self, big0, big1, big2, big3, big4, big5, if_true, if_false, ite_true, ite_false, Bool.not_true, Bool.not_false, Bool.true_and, Bool.false_and,el, tx_len]) (by simp [big]; omega)
  have e1' : ((wD ws).filter fun _ => true).map (fun d => match d with | .str x => OD.st (.tup [.int (x.length : Int), .str x]) | _ => .st .non) = (ws.map tupS).map .st := by
    rw [List.filter_eq_self.mpr (fun _ _ => rfl), List.map_map, List.map_map]
    refine List.map_congr_left fun w _ => ?_
    simp only [Function.comp, tx_len]
  rw [List.nil_append, e1'] at e1
  have e2 : gSorted (.ol ((ws.map tupS).map .st)) = some (.ol (((sw ws).map tupS).map .st)) := by
    unfold gSorted
    rw [rd_ol]
    simp only
    rw [if_pos (sortOk_S ws)]
    unfold sw
    rw [List.map_mergeSort (f := tupS) (r := fun a b => leD (tupS a) (tupS b)) (s := leD) (fun a _ b _ => rfl)]
  have hl2 : (sw ws).length ≤ 100 := by rw [(sw_perm ws).length_eq]; exact hl
  have e3 := compL_pure (own := [1, 2]) (tg := (gT 2 (gsCons (gN 1) (gsCons (gN 2) gsNil)))) (tt := fYes) (te := (fFz (fP 2))) (ρ0 := [some o, none, none])
    (p := fun _ => true) (g := fun d => match d with | .tup [_, x] => .st x | _ => .st .non) (ds := (sw ws).map tupS) (acc := []) (by
      intro d hd
      obtain ⟨w, hw', rfl⟩ := List.mem_map.mp hd
      refine ⟨[some o, some (.st (.int (w.length : Int))), some (.st (.str (tx w)))], [some o, some (.st (.int (w.length : Int))), some (.st (.str (tx w)))], by simp [gT, gsCons, gN, gsNil], rfl, (fun z => nomatch z), fun _ => ⟨[some o, some (.st (.int (w.length : Int))), some (.st (.str (tx w)))], ?_, by simp [wipeR]⟩⟩
      simp only [runM, outsOf, fSeq, fRet, fAsg, gN, fFz, fPeek, fBack, fDrop, fBin, fUn, fC, fCons, fNil, fLend, fCall, fCallK, pick, List.filterMap_cons, List.filterMap_nil, putBack, fIfS, fB, fNot, fAnd, fOr, fAndV, fOrV, fNext, fIf, fX, fLst, fTup, fMov, fPar, gs2, gs3, gT, gsCons, gsNil, fYes, gAdd_i, gLt_i, gSub_i, gDiv_i, gMod_i, gGt_i, gLe_i, gGe_i, gInt_i, gNeg_i, gAbs_i, gMax_i, gMin_i, OD.val, valL, valL_st, fItS, fFor, fLc, wipeR, fPart, fNoPart, fSl, fAppend, fExtend, fPop, fGet2, fD1, fDNew, keyD, gSetQ, gSetI, gSetD, stK_map, fItR1, fLRg, List.getElem?_cons_succ, List.getElem?_cons_zero, List.set_cons_succ, List.set_cons_zero, List.length_cons, List.length_nil, List.map_cons, List.map_nil, Option.map_some, Option.map_none, Nat.zero_add, Nat.reduceAdd, Nat.reduceLT, Nat.reduceEqDiff, and_self, big0, big1, big2, big3, big4, big5, if_true, if_false, ite_true, ite_false, Bool.not_true, Bool.not_false, Bool.true_and, Bool.false_and]) (by simp [big]; omega)
  have e3' : (((sw ws).map tupS).filter fun _ => true).map (fun d => match d with | .tup [_, x] => OD.st x | _ => .st .non) = (wD (sw ws)).map .st := by
    rw [List.filter_eq_self.mpr (fun _ _ => rfl), List.map_map, List.map_map]
    rfl
  rw [List.nil_append, e3'] at e3
  have e0 : rho0 N_sorted_words [o] = [some o, none, none] := rfl
  rcases ho with rfl | rfl
  · simp only [runM, outsOf, fSeq, fRet, fAsg, gN, fFz, fPeek, fBack, fDrop, fBin, fUn, fC, fCons, fNil, fLend, fCall, fCallK, pick, List.filterMap_cons, List.filterMap_nil, putBack, fIfS, fB, fNot, fAnd, fOr, fAndV, fOrV, fNext, fIf, fX, fLst, fTup, fMov, fPar, gs2, gs3, gT, gsCons, gsNil, fYes, gAdd_i, gLt_i, gSub_i, gDiv_i, gMod_i, gGt_i, gLe_i, gGe_i, gInt_i, gNeg_i, gAbs_i, gMax_i, gMin_i, OD.val, valL, valL_st, fItS, fFor, fLc, wipeR, fPart, fNoPart, fSl, fAppend, fExtend, fPop, fGet2, fD1, fDNew, keyD, gSetQ, gSetI, gSetD, stK_map, fItR1, fLRg, List.getElem?_cons_succ, List.getElem?_cons_zero, List.set_cons_succ, List.set_cons_zero, List.length_cons, List.length_nil, List.map_cons, List.map_nil, Option.map_some, Option.map_none, Nat.zero_add, Nat.reduceAdd, Nat.reduceLT, Nat.reduceEqDiff, and_self, big0, big1, big2, big3, big4, big5, if_true, if_false, ite_true, ite_false, Bool.not_true, Bool.not_false, Bool.true_and, Bool.false_and,m_sorted_words, F_sorted_words, e0, e1, e2, e3]
  · simp only [runM, outsOf, fSeq, fRet, fAsg, gN, fFz, fPeek, fBack, fDrop, fBin, fUn, fC, fCons, fNil, fLend, fCall, fCallK, pick, List.filterMap_cons, List.filterMap_nil, putBack, fIfS, fB, fNot, fAnd, fOr, fAndV, fOrV, fNext, fIf, fX, fLst, fTup, fMov, fPar, gs2, gs3, gT, gsCons, gsNil, fYes, gAdd_i, gLt_i, gSub_i, gDiv_i, gMod_i, gGt_i, gLe_i, gGe_i, gInt_i, gNeg_i, gAbs_i, gMax_i, gMin_i, OD.val, valL, valL_st, fItS, fFor, fLc, wipeR, fPart, fNoPart, fSl, fAppend, fExtend, fPop, fGet2, fD1, fDNew, keyD, gSetQ, gSetI, gSetD, stK_map, fItR1, fLRg, List.getElem?_cons_succ, List.getElem?_cons_zero, List.set_cons_succ, List.set_cons_zero, List.length_cons, List.length_nil, List.map_cons, List.map_nil, Option.map_some, Option.map_none, Nat.zero_add, Nat.reduceAdd, Nat.reduceLT, Nat.reduceEqDiff, and_self, big0, big1, big2, big3, big4, big5, if_true, if_false, ite_true, ite_false, Bool.not_true, Bool.not_false, Bool.true_and, Bool.false_and,m_sorted_words, F_sorted_words, e0, e1, e2, e3]
theorem is_list_ok {ds : List D} : m_is_list [.st (.lst ds)] = some (.st (.bl true), [none]) := by
  have h1 : kitB "list" "list" = some true := by decide +kernel
  have h2 : kitB "list" "tuple" = some false := by decide +kernel
  have e0 : rho0 N_is_list [.st (.lst ds)] = [some (.st (.lst ds))] := rfl
  have e1 : gIsi2K (.st (.lst ds)) (.st (.tup [.raw (.ty "list"), .raw (.ty "tuple")])) = some (.st (.bl true)) := by
    simp [gIsi2K, OD.rd, tyNK, tyN, h1, h2]
  simp only [runM, outsOf, fSeq, fRet, fAsg, gN, fFz, fPeek, fBack, fDrop, fBin, fUn, fC, fCons, fNil, fLend, fCall, fCallK, pick, List.filterMap_cons, List.filterMap_nil, putBack, fIfS, fB, fNot, fAnd, fOr, fAndV, fOrV, fNext, fIf, fX, fLst, fTup, fMov, fPar, gs2, gs3, gT, gsCons, gsNil, fYes, gAdd_i, gLt_i, gSub_i, gDiv_i, gMod_i, gGt_i, gLe_i, gGe_i, gInt_i, gNeg_i, gAbs_i, gMax_i, gMin_i, OD.val, valL, valL_st, fItS, fFor, fLc, wipeR, fPart, fNoPart, fSl, fAppend, fExtend, fPop, fGet2, fD1, fDNew, keyD, gSetQ, gSetI, gSetD, stK_map, fItR1, fLRg, List.getElem?_cons_succ, List.getElem?_cons_zero, List.set_cons_succ, List.set_cons_zero, List.length_cons, List.length_nil, List.map_cons, List.map_nil, Option.map_some, Option.map_none, Nat.zero_add, Nat.reduceAdd, Nat.reduceLT, Nat.reduceEqDiff, and_self, big0, big1, big2, big3, big4, big5, if_true, if_false, ite_true, ite_false, Bool.not_true, Bool.not_false, Bool.true_and, Bool.false_and,m_is_list, F_is_list, e0, e1]
noncomputable abbrev LiB : Fs := (fIfS (fOr (fNot (fB (fCall m_is_kept_word (fCons (fFz (fP 3)) fNil) [none]))) (fB (fBin gInQ (fP 3) (fE (fSl (fP 1) fNoPart (fPart (fFz (fP 2)))))))) fStuck fNext)
theorem cutD_to {ds : List D} {k : Nat} (h : k ≤ ds.length) : cutD ds none (some (k : Int)) = ds.take k := by
  unfold cutD
  rw [HT.sIx_nat, Nat.min_eq_left h]
  rfl
theorem Lot_ok {ws : List (List Nat)} (hw : WOk ws) (nd : ws.Nodup) : m_Lot_init [.oi "Lot" [], .st (.lst (wD ws))] = some (.st .non, [some (.oi "Lot" [("own_words", .st (.tup (wD (sw ws))))]), none]) := by
  have hnum := hw.num
  have lp := loopF_inv (tg := gT 2 (gsCons (gN 2) (gsCons (gN 3) gsNil))) (body := LiB) (I := fun i ρ => ∃ s2 s3, ρ = [some (.oi "Lot" []), some (.st (.lst (wD ws))), s2, s3])
    (ds := enumD (wD ws)) (i := 0) (ρ := [some (.oi "Lot" []), some (.st (.lst (wD ws))), none, none]) ⟨_, _, rfl⟩ (by
      rintro i d ρ hd ⟨s2, s3, rfl⟩
      have hd' : ∃ w, ws[i]? = some w ∧ d = .tup [.int (i : Int), .str (tx w)] := by
        simp only [enumD, List.getElem?_map, List.getElem?_zipIdx] at hd
        cases q0 : ws[i]? with
        | none => rw [q0] at hd; simp at hd
        | some w => rw [q0] at hd; exact ⟨w, rfl, by simpa using hd.symm⟩
      obtain ⟨w, hwi, rfl⟩ := hd'
      have hm := List.mem_of_getElem? hwi
      have hi := (List.getElem?_eq_some_iff.mp hwi).1
      have e1 := is_kept_ok (hw.low w hm) (hw.ne w hm) (hw.len w hm)
      have e2 : gSl (.st (.lst (wD ws))) none (some (i : Int)) = some (.ol ((wD (ws.take i)).map .st)) := by
        show some (OD.ol ((cutD (wD ws) none (some (i : Int))).map .st)) = _
        rw [cutD_to (by simp; omega), ← List.map_take]
      have hni : w ∉ ws.take i := by
        intro z
        obtain ⟨j, hj, hjw⟩ := List.getElem_of_mem z
        have hj' : j < i := by simp at hj; omega
        rw [List.getElem_take] at hjw
        have hwi' := (List.getElem?_eq_some_iff.mp hwi).2
        exact List.pairwise_iff_getElem.mp nd j i (by omega) hi hj' (by rw [hjw, hwi'])
      have e3 : gInQ (.st (.str (tx w))) (.ol ((wD (ws.take i)).map .st)) = some (.st (.bl false)) := by
        rw [in_w (seq_wO (ws.take i))]
        simp [hni]
      refine ⟨[some (.oi "Lot" []), some (.st (.lst (wD ws))), some (.st (.int (i : Int))), some (.st (.str (tx w)))], [some (.oi "Lot" []), some (.st (.lst (wD ws))), some (.st (.int (i : Int))), some (.st (.str (tx w)))], by simp [gT, gsCons, gN, gsNil], ?_, _, _, rfl⟩
      · simp only [runM, outsOf, fSeq, fRet, fAsg, gN, fFz, fPeek, fBack, fDrop, fBin, fUn, fC, fCons, fNil, fLend, fCall, fCallK, pick, List.filterMap_cons, List.filterMap_nil, putBack, fIfS, fB, fNot, fAnd, fOr, fAndV, fOrV, fNext, fIf, fX, fLst, fTup, fMov, fPar, gs2, gs3, gT, gsCons, gsNil, fYes, gAdd_i, gLt_i, gSub_i, gDiv_i, gMod_i, gGt_i, gLe_i, gGe_i, gInt_i, gNeg_i, gAbs_i, gMax_i, gMin_i, OD.val, valL, valL_st, fItS, fFor, fLc, wipeR, fPart, fNoPart, fSl, fAppend, fExtend, fPop, fGet2, fD1, fDNew, keyD, gSetQ, gSetI, gSetD, stK_map, fItR1, fLRg, List.getElem?_cons_succ, List.getElem?_cons_zero, List.set_cons_succ, List.set_cons_zero, List.length_cons, List.length_nil, List.map_cons, List.map_nil, Option.map_some, Option.map_none, Nat.zero_add, Nat.reduceAdd, Nat.reduceLT, Nat.reduceEqDiff, and_self, big0, big1, big2, big3, big4, big5, if_true, if_false, ite_true, ite_false, Bool.not_true, Bool.not_false, Bool.true_and, Bool.false_and,LiB, e1, e2, e3])
  obtain ⟨ρ', e1, s2, s3, rfl⟩ := lp
  have e2 := sorted_words_ok (ws := ws) (o := .st (.lst (wD ws))) (.inl rfl) (fun w h => by have := hw.len w h; omega) (by omega)
  have e3 := is_list_ok (ds := wD ws)
  have e4 : gLen (.st (.lst (wD ws))) = some (.st (.int (ws.length : Int))) := by
    show some (OD.st (.int ((wD ws).length : Int))) = _
    simp
  have h10 : decide ((10 : Int) < (ws.length : Int)) = false := by simp; omega
  have e5 : gTuple (wO (sw ws)) = some (.st (.tup (wD (sw ws)))) := by
    unfold gTuple
    rw [rd_ol]
  have e0 : rho0 N_Lot_init [.oi "Lot" [], .st (.lst (wD ws))] = [some (.oi "Lot" []), some (.st (.lst (wD ws))), none, none] := rfl
  simp only [LiB] at e1
  simp only [runM, outsOf, fSeq, fRet, fAsg, gN, fFz, fPeek, fBack, fDrop, fBin, fUn, fC, fCons, fNil, fLend, fCall, fCallK, pick, List.filterMap_cons, List.filterMap_nil, putBack, fIfS, fB, fNot, fAnd, fOr, fAndV, fOrV, fNext, fIf, fX, fLst, fTup, fMov, fPar, gs2, gs3, gT, gsCons, gsNil, fYes, gAdd_i, gLt_i, gSub_i, gDiv_i, gMod_i, gGt_i, gLe_i, gGe_i, gInt_i, gNeg_i, gAbs_i, gMax_i, gMin_i, OD.val, valL, valL_st, fItS, fFor, fLc, wipeR, fPart, fNoPart, fSl, fAppend, fExtend, fPop, fGet2, fD1, fDNew, keyD, gSetQ, gSetI, gSetD, stK_map, fItR1, fLRg, List.getElem?_cons_succ, List.getElem?_cons_zero, List.set_cons_succ, List.set_cons_zero, List.length_cons, List.length_nil, List.map_cons, List.map_nil, Option.map_some, Option.map_none, Nat.zero_add, Nat.reduceAdd, Nat.reduceLT, Nat.reduceEqDiff, and_self, big0, big1, big2, big3, big4, big5, if_true, if_false, ite_true, ite_false, Bool.not_true, Bool.not_false, Bool.true_and, Bool.false_and,m_Lot_init, F_Lot_init, e0, e3, fItEQ, e1, e4, h10, fSetF, e2, e5, List.all_nil, List.nil_append]
theorem bT_perm (q : List Nat) {ws ws' : List (List Nat)} (p : ws.Perm ws') : bT q ws = bT q ws' := by
  have pr : (rawT q ws).Perm (rawT q ws') := p.flatMap_right _
  have p1 := List.mergeSort_perm (rawT q ws) leT
  have p2 := List.mergeSort_perm (rawT q ws') leT
  have hs : ∀ l : List Tri, (l.mergeSort leT).Pairwise fun a b => leT a b = true := fun l =>
    List.pairwise_mergeSort (le := leT) (fun a b c => leD_total.trans (tupT a) (tupT b) (tupT c)) (fun a b => by have := leD_total.total (tupT a) (tupT b); simpa [leT] using this) l
  unfold bT
  refine List.Perm.eq_of_pairwise (le := fun a b => leT a b = true) (fun a b _ _ h1 h2 => ?_) (hs _) (hs _) (p1.trans (pr.trans p2.symm))
  have := leD_anti h1 h2
  have e : ∀ t : Tri, tk (tupT t) = [.inl 1, .inl t.1, .inl 1, .inl t.2.1, .inl 1, .inr t.2.2.cps.toList, .inl 0] := fun t => rfl
  rw [e, e] at this
  simp only [List.cons.injEq, Sum.inl.injEq, Sum.inr.injEq, and_true, true_and] at this
  obtain ⟨h1, h2, h3⟩ := this
  exact Prod.ext h1 (Prod.ext h2 (W.str_of_cps h3))
theorem WOk.perm {ws ws' : List (List Nat)} (h : WOk ws) (p : ws'.Perm ws) : WOk ws' :=
  ⟨fun w hw => h.low w (p.mem_iff.mp hw), fun w hw => h.ne w (p.mem_iff.mp hw), fun w hw => h.len w (p.mem_iff.mp hw), by rw [p.length_eq]; exact h.num⟩
theorem make_ok {ws : List (List Nat)} (hw : WOk ws) (nd : ws.Nodup) {f : Fa} {ρ ρ1 : Rho} (hf : f ρ = some ([.st (.lst (wD ws))], ρ1)) : fMake "Lot" m_Lot_init f [none] ρ = some (.st (lotD (sw ws)), ρ1) := by
  have e := Lot_ok hw nd
  simp only [fMake, hf, e]
  rfl
theorem cut_in {q : List Nat} {a s : Nat} (h : a ≤ q.length) : cutS (tx q) (some (a : Int)) (some ((a : Int) + (s : Int))) = tx ((q.drop a).take s) := by
  show (⟨((q.drop (HT.sIx q.length 0 (some (a : Int)))).take (HT.sIx q.length q.length (some ((a : Int) + (s : Int))) - HT.sIx q.length 0 (some (a : Int)))).toArray⟩ : Str) = _
  rw [show ((a : Int) + (s : Int)) = ((a + s : Nat) : Int) by omega, HT.sIx_nat, HT.sIx_nat, Nat.min_eq_left h]
  congr 2
  by_cases hs : a + s ≤ q.length
  · rw [Nat.min_eq_left hs, show a + s - a = s by omega]
  · rw [Nat.min_eq_right (by omega), List.take_of_length_le (by simp), List.take_of_length_le (by simp; omega)]
theorem all_bools (bs : List Bool) : gAll (.ol ((bD bs).map .st)) = some (.st (.bl (bs.all id))) := by
  have : ∀ bs : List Bool, blsOf (bD bs) = some bs := fun bs => by
    induction bs with
    | nil => rfl
    | cons b r ih =>
      show blsOf (.bl b :: bD r) = _
      simp only [blsOf, ih]
      rfl
  unfold gAll
  rw [rd_ol]
  simp only [this]
  rfl
theorem neI (a b : Int) : gNe (.st (.int a)) (.st (.int b)) = some (.st (.bl (!decide (a = b)))) := by
  show some (OD.st (.bl (!PyData.eqv (.int a) (.int b)))) = _
  have : PyData.eqv (.int a) (.int b) = decide (a = b) := by
    show (a == b) = _
    by_cases h : a = b
    · subst h; simp
    · simp [h]
  rw [this]
theorem cutD_take (ds : List D) (k : Nat) : cutD ds none (some (k : Int)) = ds.take k := by
  unfold cutD
  rw [HT.sIx_nat]
  show (ds.drop 0).take (min k ds.length - 0) = _
  rw [List.drop_zero, Nat.sub_zero]
  by_cases h : k ≤ ds.length
  · rw [Nat.min_eq_left h]
  · rw [Nat.min_eq_right (by omega), List.take_of_length_le (Nat.le_refl _), List.take_of_length_le (by omega)]
theorem eq_py {o o' : OD} {P : PyData} (h : o.py = some P) (h' : o'.py = some P) (hs : SeqAt.shaped P = true) : gEq o o' = some (.st (.bl true)) := by
  have hl : P.canLay0 = true := by
    unfold SeqAt.shaped at hs
    exact (Bool.and_eq_true_iff.mp hs).1
  unfold gEq
  rw [h, h']
  simp only
  rw [if_pos ⟨hs, hs⟩, SeqAt.eqv_refl P hl]
theorem ne_py {o o' : OD} {P : PyData} (h : o.py = some P) (h' : o'.py = some P) (hs : SeqAt.shaped P = true) : gNe o o' = some (.st (.bl false)) := by
  have hl : P.canLay0 = true := by
    unfold SeqAt.shaped at hs
    exact (Bool.and_eq_true_iff.mp hs).1
  unfold gNe
  rw [h, h']
  simp only
  rw [if_pos ⟨hs, hs⟩, SeqAt.eqv_refl P hl]
  rfl
/-- bridges as data -/
abbrev pT (t : Tri) : PyData := .tuple [.int t.1, .int t.2.1, .str t.2.2]
theorem py_tD : ∀ B : List Tri, pyL (tD B) = some (B.map pT)
  | [] => rfl
  | t :: r => by
    show (match (D.tup [.int t.1, .int t.2.1, .str t.2.2]).py, pyL (tD r) with | some p, some ps => some (p :: ps) | _, _ => none) = _
    rw [py_tD r]
    rfl
theorem py_tO (B : List Tri) : OD.py (.ol ((tD B).map .st)) = some (.list (B.map pT)) := by
  show (OD.val (.ol ((tD B).map .st))).py = _
  rw [val_ol]
  show (pyL (tD B)).map PyData.list = _
  rw [py_tD]
  rfl
theorem lay_t : ∀ {B : List Tri}, (∀ t ∈ B, PyData.strOk t.2.2 = true) → PyData.canLayAll0 (B.map pT) = true
  | [], _ => rfl
  | t :: r, h => by
    show (PyData.canLay0 (pT t) && PyData.canLayAll0 (r.map pT)) = true
    rw [lay_t fun x hx => h x (List.mem_cons_of_mem _ hx), Bool.and_true]
    show (true && (true && (PyData.strOk t.2.2 && true))) = true
    rw [h t List.mem_cons_self]
    rfl
theorem depth_t : ∀ B : List Tri, PyData.depthAll (B.map pT) ≤ 1
  | [] => Nat.zero_le _
  | t :: r => by
    show max (PyData.depth (pT t)) (PyData.depthAll (r.map pT)) ≤ 1
    have h1 := depth_t r
    have h2 : PyData.depth (pT t) = 1 := rfl
    omega
theorem shaped_t {B : List Tri} (h : ∀ t ∈ B, PyData.strOk t.2.2 = true) : SeqAt.shaped (.list (B.map pT)) = true := by
  unfold SeqAt.shaped
  rw [show PyData.canLay0 (.list (B.map pT)) = true from lay_t h]
  show (true && decide (PyData.depthAll (B.map pT) + 1 ≤ 64)) = true
  have := depth_t B
  simp
  omega
theorem shaped_t1 {t : Tri} (h : PyData.strOk t.2.2 = true) : SeqAt.shaped (pT t) = true := by
  unfold SeqAt.shaped
  rw [show PyData.canLay0 (pT t) = (true && (true && (PyData.strOk t.2.2 && true))) from rfl, h]
  rfl
theorem eqv_t (t u : Tri) : PyData.eqv (pT t) (pT u) = decide (t = u) := by
  show (t.1 == u.1 && (t.2.1 == u.2.1 && (t.2.2 == u.2.2 && true))) = _
  by_cases h : t = u
  · subst h
    simp
  · rw [decide_eq_false h]
    apply Bool.eq_false_iff.mpr
    intro z
    simp only [Bool.and_eq_true, beq_iff_eq, and_true] at z
    exact h (Prod.ext z.1 (Prod.ext z.2.1 z.2.2))
/-- a bridge among bridges -/
theorem notIn_t {t : Tri} {B : List Tri} {o : OD} (ho : o.py = some (.list (B.map pT))) (hB : ∀ t ∈ B, PyData.strOk t.2.2 = true) (ht : PyData.strOk t.2.2 = true) : gNotInQ (.st (.tup [.int t.1, .int t.2.1, .str t.2.2])) o = some (.st (.bl (!decide (t ∈ B)))) := by
  have e1 : gInF true (.st (.tup [.int t.1, .int t.2.1, .str t.2.2])) o = none := by
    unfold gInF
    simp [OD.rd, scOf]
  unfold gNotInQ gOr2
  rw [e1]
  simp only
  unfold gNotIn
  rw [ho, show OD.py (.st (.tup [.int t.1, .int t.2.1, .str t.2.2])) = some (pT t) from rfl]
  simp only
  rw [if_pos ⟨shaped_t1 ht, shaped_t hB⟩]
  congr 4
  rw [List.any_map]
  have : ((fun z => PyData.eqv z (pT t)) ∘ pT) = fun u => decide (u = t) := by
    funext u
    exact eqv_t u t
  rw [this]
  by_cases h : t ∈ B
  · rw [decide_eq_true h]
    exact List.any_eq_true.mpr ⟨t, h, by simp⟩
  · rw [decide_eq_false h]
    apply Bool.eq_false_iff.mpr
    intro z
    obtain ⟨u, hu, e⟩ := List.any_eq_true.mp z
    have : u = t := by simpa using e
    exact h (this ▸ hu)
theorem is_int_ok (i : Int) : m_is_integer [.st (.int i)] = some (.st (.bl true), [none]) := by
  have h1 : gIsi (.st (.int i)) (.st (.raw (.ty "int"))) = some (.st (.bl true)) := by
    have : kitB "int" "int" = some true := by decide +kernel
    simp [gIsi, OD.rd, tyN, this]
  have h2 : gIsi (.st (.int i)) (.st (.raw (.ty "bool"))) = some (.st (.bl false)) := by
    have : kitB "int" "bool" = some false := by decide +kernel
    simp [gIsi, OD.rd, tyN, this]
  simp [runM, rho0, outsOf, fSeq, fRet, fAsg, gN, fFz, fPeek, fBack, fDrop, fBin, fUn, fC, fCons, fNil, fLend, fCall, putBack, fIfS, fB, fNot, fAnd, fOr, fAndV, fOrV, fNext, fIf, fX, fLst, fTup, fMov, fPar, gs2, gs3, gT, gsCons, gsNil, gAdd_i, gLt_i, gSub_i, gMul_i, gDiv_i, gMod_i, gGt_i, gLe_i, gGe_i, gInt_i, gNeg_i, gAbs_i, gMax_i, gMin_i, gPow_i, gSetI, gDivmod, gIx, OD.rd, OD.val, stAll, gLen, fItS, fItR1, fFor, fLc, wipeR, fPart, fNoPart, fSl, -List.map_map,m_is_integer, F_is_integer, h1, h2, gNotV]
end Lw
set_option Elab.async false
set_option linter.all false
set_option maxRecDepth 100000
set_option maxHeartbeats 400000
namespace Lw
open PySem L2 Qy
theorem fFor_eq {it : Fi} {tg : Fg} {body : Fs} {ρ ρ' : Rho} {ds : List D} {r : Option Out} (h : it ρ = some (ds, ρ')) (h2 : loopF tg body ds ρ' = r) : fFor it tg body ρ = r := by
  unfold fFor
  rw [h]
  exact h2
theorem fSeq_nx {f g : Fs} {ρ ρ' : Rho} (h : f ρ = some (.nx ρ')) : fSeq f g ρ = g ρ' := by
  unfold fSeq
  rw [h]
theorem runM_rt {B : List Bool} {N : List Str} {F : Fs} {ods : List OD} {r : OD} {ρ' : Rho} (h : F (rho0 N ods) = some (.rt r ρ')) : runM B N F ods = some (r, outsOf B ρ') := by
  unfold runM
  rw [h]
theorem fAsg_gN {f : Fe} {i : Nat} {ρ ρ1 ρ2 : Rho} {o : OD} (h : f ρ = some (o, ρ1)) (hi : i < ρ1.length) (h2 : ρ1.set i (some o) = ρ2) : fAsg f (gN i) ρ = some (.nx ρ2) := by
  unfold fAsg gN
  rw [h]
  simp only
  rw [if_pos hi, h2]
theorem both_same {E F : List (Int × Int)} (h : ∀ p, p ∈ E ↔ p ∈ F) {a b : Int} : Rch (both E) a b ↔ Rch (both F) a b := by
  constructor
  · exact fun r => r.mono fun p hp => by
      obtain ⟨x, y⟩ := p
      rcases both_mem.mp hp with z | z
      · exact both_mem.mpr (.inl ((h _).mp z))
      · exact both_mem.mpr (.inr ((h _).mp z))
  · exact fun r => r.mono fun p hp => by
      obtain ⟨x, y⟩ := p
      rcases both_mem.mp hp with z | z
      · exact both_mem.mpr (.inl ((h _).mpr z))
      · exact both_mem.mpr (.inr ((h _).mpr z))
end Lw
set_option Elab.async false
set_option linter.all false
set_option maxRecDepth 100000
set_option maxHeartbeats 400000
namespace Lw
open PySem L2 Qy
theorem want_place_ok {q : List Nat} (hq : q.length ≤ 24) {i : Int} (h0 : 0 ≤ i) (h1 : i ≤ (q.length : Int)) : m_want_place [.st (.str (tx q)), .st (.int i)] = some (.st .non, [none, none]) := by
  have e1 := is_int_ok i
  have e2 : m_is_count [.st (.int i)] = some (.st (.bl true), [none]) := by
    simp [runM, rho0, outsOf, fSeq, fRet, fAsg, gN, fFz, fPeek, fBack, fDrop, fBin, fUn, fC, fCons, fNil, fLend, fCall, putBack, fIfS, fB, fNot, fAnd, fOr, fAndV, fOrV, fNext, fIf, fX, fLst, fTup, fMov, fPar, gs2, gs3, gT, gsCons, gsNil, gAdd_i, gLt_i, gSub_i, gMul_i, gDiv_i, gMod_i, gGt_i, gLe_i, gGe_i, gInt_i, gNeg_i, gAbs_i, gMax_i, gMin_i, gPow_i, gSetI, gDivmod, gIx, OD.rd, OD.val, stAll, gLen, fItS, fItR1, fFor, fLc, wipeR, fPart, fNoPart, fSl, -List.map_map,m_is_count, F_is_count, e1, h0]
  have e3 := len_q hq
  have e4 : m_is_place [.st (.str (tx q)), .st (.int i)] = some (.st (.bl true), [none, none]) := by
    have e0 : rho0 N_is_place [.st (.str (tx q)), .st (.int i)] = [some (.st (.str (tx q))), some (.st (.int i))] := rfl
    have hd : decide (i ≤ (q.length : Int)) = true := by simpa using h1
    simp only [runM, outsOf, fSeq, fRet, fAsg, gN, fFz, fPeek, fBack, fDrop, fBin, fUn, fC, fCons, fNil, fLend, fCall, fCallK, pick, List.filterMap_cons, List.filterMap_nil, putBack, fIfS, fB, fNot, fAnd, fOr, fAndV, fOrV, fNext, fIf, fX, fLst, fTup, fMov, fPar, gs2, gs3, gT, gsCons, gsNil, fYes, gAdd_i, gLt_i, gSub_i, gDiv_i, gMod_i, gGt_i, gLe_i, gGe_i, gInt_i, gNeg_i, gAbs_i, gMax_i, gMin_i, OD.val, valL, valL_st, fItS, fFor, fLc, wipeR, fPart, fNoPart, fSl, fAppend, fExtend, fPop, fGet2, fD1, fDNew, keyD, gSetQ, gSetI, gSetD, stK_map, fItR1, fLRg, List.getElem?_cons_succ, List.getElem?_cons_zero, List.set_cons_succ, List.set_cons_zero, List.length_cons, List.length_nil, List.map_cons, List.map_nil, Option.map_some, Option.map_none, Nat.zero_add, Nat.reduceAdd, Nat.reduceLT, Nat.reduceEqDiff, and_self, big0, big1, big2, big3, big4, big5, if_true, if_false, ite_true, ite_false, Bool.not_true, Bool.not_false, Bool.true_and, Bool.false_and,m_is_place, F_is_place, e0, e2, e3, hd]
  have e0 : rho0 N_want_place [.st (.str (tx q)), .st (.int i)] = [some (.st (.str (tx q))), some (.st (.int i))] := rfl
  simp only [runM, outsOf, fSeq, fRet, fAsg, gN, fFz, fPeek, fBack, fDrop, fBin, fUn, fC, fCons, fNil, fLend, fCall, fCallK, pick, List.filterMap_cons, List.filterMap_nil, putBack, fIfS, fB, fNot, fAnd, fOr, fAndV, fOrV, fNext, fIf, fX, fLst, fTup, fMov, fPar, gs2, gs3, gT, gsCons, gsNil, fYes, gAdd_i, gLt_i, gSub_i, gDiv_i, gMod_i, gGt_i, gLe_i, gGe_i, gInt_i, gNeg_i, gAbs_i, gMax_i, gMin_i, OD.val, valL, valL_st, fItS, fFor, fLc, wipeR, fPart, fNoPart, fSl, fAppend, fExtend, fPop, fGet2, fD1, fDNew, keyD, gSetQ, gSetI, gSetD, stK_map, fItR1, fLRg, List.getElem?_cons_succ, List.getElem?_cons_zero, List.set_cons_succ, List.set_cons_zero, List.length_cons, List.length_nil, List.map_cons, List.map_nil, Option.map_some, Option.map_none, Nat.zero_add, Nat.reduceAdd, Nat.reduceLT, Nat.reduceEqDiff, and_self, big0, big1, big2, big3, big4, big5, if_true, if_false, ite_true, ite_false, Bool.not_true, Bool.not_false, Bool.true_and, Bool.false_and,m_want_place, F_want_place, e0, e4]
theorem joined_to_ok {q : List Nat} {ws : List (List Nat)} (hq : QOk q) (hw : WOk ws) {i : Int} (h0 : 0 ≤ i) (h1 : i ≤ (q.length : Int)) : m_joined_to [.st (lotD ws), .st (.str (tx q)), .st (.int i)] = some (iO (cl (q.length + 1) (bT q ws) i), [none, none, none]) := by
  have e1 := want_question_ok hq.low hq.ne hq.len
  have e2 := want_place_ok hq.len h0 h1
  have e3 := class_of_ok hq hw h0 h1
  have e0 : rho0 N_joined_to [.st (lotD ws), .st (.str (tx q)), .st (.int i)] = [some (.st (lotD ws)), some (.st (.str (tx q))), some (.st (.int i))] := rfl
  simp only [runM, outsOf, fSeq, fRet, fAsg, gN, fFz, fPeek, fBack, fDrop, fBin, fUn, fC, fCons, fNil, fLend, fCall, fCallK, pick, List.filterMap_cons, List.filterMap_nil, putBack, fIfS, fB, fNot, fAnd, fOr, fAndV, fOrV, fNext, fIf, fX, fLst, fTup, fMov, fPar, gs2, gs3, gT, gsCons, gsNil, fYes, gAdd_i, gLt_i, gSub_i, gDiv_i, gMod_i, gGt_i, gLe_i, gGe_i, gInt_i, gNeg_i, gAbs_i, gMax_i, gMin_i, OD.val, valL, valL_st, fItS, fFor, fLc, wipeR, fPart, fNoPart, fSl, fAppend, fExtend, fPop, fGet2, fD1, fDNew, keyD, gSetQ, gSetI, gSetD, stK_map, fItR1, fLRg, List.getElem?_cons_succ, List.getElem?_cons_zero, List.set_cons_succ, List.set_cons_zero, List.length_cons, List.length_nil, List.map_cons, List.map_nil, Option.map_some, Option.map_none, Nat.zero_add, Nat.reduceAdd, Nat.reduceLT, Nat.reduceEqDiff, and_self, big0, big1, big2, big3, big4, big5, if_true, if_false, ite_true, ite_false, Bool.not_true, Bool.not_false, Bool.true_and, Bool.false_and,m_joined_to, F_joined_to, e0, e1, e2, e3]
theorem forth_ok {q : List Nat} {ws : List (List Nat)} (hq : QOk q) (hw : WOk ws) {i : Int} (h0 : 0 ≤ i) (h1 : i ≤ (q.length : Int)) : m_forth_of [.st (lotD ws), .st (.str (tx q)), .st (.int i)] = some (iO (rl (eB (bT q ws)) (q.length + 1) i), [none, none, none]) := by
  have e1 := bridges_of_ok hq hw
  have hB := bT_ok (q := q) hw.ne hq.len hw.num
  have hlen := hB.len
  have hne : 0 < q.length := List.length_pos_iff.mpr hq.ne
  have e4 := spread_ok (E := eB (bT q ws)) (s := i) (n := q.length + 1) (by simp; omega) (by have := hq.len; omega) (fun x hx => hB.bd ⟨by omega, by omega⟩ x (hx.mono fun p hp => List.mem_append_left _ hp))
  generalize bT q ws = B at *
  have e2 := compS (α := Tri) (enc := fun t => .tup [.int t.1, .int t.2.1, .str t.2.2]) (own := [3, 4, 5]) (tg := (gT 3 (gsCons (gN 3) (gsCons (gN 4) (gsCons (gN 5) gsNil))))) (tt := fYes) (te := (fTup (fCons (fFz (fP 3)) (fCons (fFz (fP 4)) fNil)))) (ρ0 := [some (.st (lotD ws)), some (.st (.str (tx q))), some (.st (.int i)), none, none, none])
    (r := fun t => some (.st (.tup [.int t.1, .int t.2.1]))) (as := B) (acc := []) (by
      intro t ht
      unfold stepC
      generalize lotD ws = l
      simp only [runM, outsOf, fSeq, fRet, fAsg, gN, fFz, fPeek, fBack, fDrop, fBin, fUn, fC, fCons, fNil, fLend, fCall, fCallK, pick, List.filterMap_cons, List.filterMap_nil, putBack, fIfS, fB, fNot, fAnd, fOr, fAndV, fOrV, fNext, fIf, fX, fLst, fTup, fMov, fPar, gs2, gs3, gT, gsCons, gsNil, fYes, gAdd_i, gLt_i, gSub_i, gDiv_i, gMod_i, gGt_i, gLe_i, gGe_i, gInt_i, gNeg_i, gAbs_i, gMax_i, gMin_i, OD.val, valL, valL_st, fItS, fFor, fLc, wipeR, fPart, fNoPart, fSl, fAppend, fExtend, fPop, fGet2, fD1, fDNew, keyD, gSetQ, gSetI, gSetD, stK_map, fItR1, fLRg, List.getElem?_cons_succ, List.getElem?_cons_zero, List.set_cons_succ, List.set_cons_zero, List.length_cons, List.length_nil, List.map_cons, List.map_nil, Option.map_some, Option.map_none, Nat.zero_add, Nat.reduceAdd, Nat.reduceLT, Nat.reduceEqDiff, and_self, big0, big1, big2, big3, big4, big5, if_true, if_false, ite_true, ite_false, Bool.not_true, Bool.not_false, Bool.true_and, Bool.false_and,]) (by simp [big]; omega)
  rw [List.nil_append, filterMap_some] at e2
  have e3 : B.map (fun t => OD.st (.tup [.int t.1, .int t.2.1])) = (pD (eB B)).map .st := by
    simp only [pD, eB, List.map_map]
    rfl
  rw [e3] at e2
  have e2' : compL [3, 4, 5] (gT 3 (gsCons (gN 3) (gsCons (gN 4) (gsCons (gN 5) gsNil)))) fYes (fTup (fCons (fFz (fP 3)) (fCons (fFz (fP 4)) fNil))) (tD B) [some (.st (lotD ws)), some (.st (.str (tx q))), some (.st (.int i)), none, none, none] [] = some ((pD (eB B)).map .st, [some (.st (lotD ws)), some (.st (.str (tx q))), some (.st (.int i)), none, none, none]) := e2
  have e0 : rho0 N_forth_of [.st (lotD ws), .st (.str (tx q)), .st (.int i)] = [some (.st (lotD ws)), some (.st (.str (tx q))), some (.st (.int i)), none, none, none] := rfl
  have v1 := valL_st (tD B)
  have v2 := valL_st (pD (eB B))
  generalize tD B = L at *
  generalize pD (eB B) = M at *
  generalize iO (rl (eB B) (q.length + 1) i) = R at *
  generalize lotD ws = l at *
  simp only [runM, outsOf, fSeq, fRet, fAsg, gN, fFz, fPeek, fBack, fDrop, fBin, fUn, fC, fCons, fNil, fLend, fCall, fCallK, pick, List.filterMap_cons, List.filterMap_nil, putBack, fIfS, fB, fNot, fAnd, fOr, fAndV, fOrV, fNext, fIf, fX, fLst, fTup, fMov, fPar, gs2, gs3, gT, gsCons, gsNil, fYes, gAdd_i, gLt_i, gSub_i, gDiv_i, gMod_i, gGt_i, gLe_i, gGe_i, gInt_i, gNeg_i, gAbs_i, gMax_i, gMin_i, OD.val, valL, valL_st, fItS, fFor, fLc, wipeR, fPart, fNoPart, fSl, fAppend, fExtend, fPop, fGet2, fD1, fDNew, keyD, gSetQ, gSetI, gSetD, stK_map, fItR1, fLRg, List.getElem?_cons_succ, List.getElem?_cons_zero, List.set_cons_succ, List.set_cons_zero, List.length_cons, List.length_nil, List.map_cons, List.map_nil, Option.map_some, Option.map_none, Nat.zero_add, Nat.reduceAdd, Nat.reduceLT, Nat.reduceEqDiff, and_self, big0, big1, big2, big3, big4, big5, if_true, if_false, ite_true, ite_false, Bool.not_true, Bool.not_false, Bool.true_and, Bool.false_and,m_forth_of, F_forth_of, e0, e1, e2', e4]
theorem forth_from_ok {q : List Nat} {ws : List (List Nat)} (hq : QOk q) (hw : WOk ws) {i : Int} (h0 : 0 ≤ i) (h1 : i ≤ (q.length : Int)) : m_forth_from [.st (lotD ws), .st (.str (tx q)), .st (.int i)] = some (iO (rl (eB (bT q ws)) (q.length + 1) i), [none, none, none]) := by
  have e1 := want_question_ok hq.low hq.ne hq.len
  have e2 := want_place_ok hq.len h0 h1
  have e3 := forth_ok hq hw h0 h1
  have e0 : rho0 N_forth_from [.st (lotD ws), .st (.str (tx q)), .st (.int i)] = [some (.st (lotD ws)), some (.st (.str (tx q))), some (.st (.int i))] := rfl
  simp only [runM, outsOf, fSeq, fRet, fAsg, gN, fFz, fPeek, fBack, fDrop, fBin, fUn, fC, fCons, fNil, fLend, fCall, fCallK, pick, List.filterMap_cons, List.filterMap_nil, putBack, fIfS, fB, fNot, fAnd, fOr, fAndV, fOrV, fNext, fIf, fX, fLst, fTup, fMov, fPar, gs2, gs3, gT, gsCons, gsNil, fYes, gAdd_i, gLt_i, gSub_i, gDiv_i, gMod_i, gGt_i, gLe_i, gGe_i, gInt_i, gNeg_i, gAbs_i, gMax_i, gMin_i, OD.val, valL, valL_st, fItS, fFor, fLc, wipeR, fPart, fNoPart, fSl, fAppend, fExtend, fPop, fGet2, fD1, fDNew, keyD, gSetQ, gSetI, gSetD, stK_map, fItR1, fLRg, List.getElem?_cons_succ, List.getElem?_cons_zero, List.set_cons_succ, List.set_cons_zero, List.length_cons, List.length_nil, List.map_cons, List.map_nil, Option.map_some, Option.map_none, Nat.zero_add, Nat.reduceAdd, Nat.reduceLT, Nat.reduceEqDiff, and_self, big0, big1, big2, big3, big4, big5, if_true, if_false, ite_true, ite_false, Bool.not_true, Bool.not_false, Bool.true_and, Bool.false_and,m_forth_from, F_forth_from, e0, e1, e2, e3]
end Lw
set_option Elab.async false
set_option linter.all false
set_option maxRecDepth 100000
set_option maxHeartbeats 400000
namespace Lw
open PySem L2 Qy
theorem len_tx {w : List Nat} (h : w.length ≤ 1000) : gLen (.st (.str (tx w))) = some (.st (.int (w.length : Int))) := by
  have hb : w.length ≤ big := by unfold big; omega
  simp [gLen, OD.rd, tx_len, hb]
theorem sl_tx {w : List Nat} (h : w.length ≤ 1000) (lo hi : Option Int) : gSl (.st (.str (tx w))) lo hi = some (.st (.str (cutS (tx w) lo hi))) := by
  have hb : (tx w).length ≤ big := by rw [tx_len]; unfold big; omega
  show (if (tx w).length ≤ big then _ else _) = _
  rw [if_pos hb]
theorem piece_ok {o : OD} {q : List Nat} {k : Int} (hp : PotOk o) (hq0 : q ≠ []) (hql : q.length ≤ 1000) (hk : 0 < k) (hk2 : k ≤ 100) : ∃ l o', m_law_piece [o, .st (.str (tx q)), .st (.int k)] = some (.st (.str (tx l)), [some o', none, none]) ∧ PotOk o' ∧ l ≠ [] ∧ (l.length : Int) ≤ k ∧ ∀ c ∈ l, c ∈ q := by
  have hpos := List.length_pos_iff.mpr hq0
  obtain ⟨d1, o1, e1, a0, a1, hp1⟩ := draw_ok (n := (q.length : Int)) hp (by omega) (by omega)
  obtain ⟨d2, o2, e2, b0, b1, hp2⟩ := draw_ok (n := k) hp1 hk (by omega)
  obtain ⟨a, rfl⟩ := Int.eq_ofNat_of_zero_le a0
  obtain ⟨b, rfl⟩ := Int.eq_ofNat_of_zero_le b0
  have el := len_tx hql
  have es := sl_tx hql (some (a : Int)) (some ((a : Int) + 1 + (b : Int)))
  rw [show ((a : Int) + 1 + (b : Int)) = (a : Int) + ((1 + b : Nat) : Int) by omega, cut_in (by omega)] at es
  rw [show (a : Int) + ((1 + b : Nat) : Int) = (a : Int) + 1 + (b : Int) by omega] at es
  refine ⟨(q.drop a).take (1 + b), o2, ?_, hp2, ?_, ?_, fun c hc => List.mem_of_mem_drop (List.mem_of_mem_take hc)⟩
  · have e0 : rho0 N_law_piece [o, .st (.str (tx q)), .st (.int k)] = [some o, some (.st (.str (tx q))), some (.st (.int k)), none] := rfl
    simp only [runM, outsOf, fSeq, fRet, fAsg, gN, fFz, fPeek, fBack, fDrop, fBin, fUn, fC, fCons, fNil, fLend, fCall, fCallK, pick, List.filterMap_cons, List.filterMap_nil, putBack, fIfS, fB, fNot, fAnd, fOr, fAndV, fOrV, fNext, fIf, fX, fLst, fTup, fMov, fPar, gs2, gs3, gT, gsCons, gsNil, fYes, gAdd_i, gLt_i, gSub_i, gDiv_i, gMod_i, gGt_i, gLe_i, gGe_i, gInt_i, gNeg_i, gAbs_i, gMax_i, gMin_i, OD.val, valL, valL_st, fItS, fFor, fLc, wipeR, fPart, fNoPart, fSl, fAppend, fExtend, fPop, fGet2, fD1, fDNew, keyD, gSetQ, gSetI, gSetD, stK_map, fItR1, fLRg, List.getElem?_cons_succ, List.getElem?_cons_zero, List.set_cons_succ, List.set_cons_zero, List.length_cons, List.length_nil, List.map_cons, List.map_nil, Option.map_some, Option.map_none, Nat.zero_add, Nat.reduceAdd, Nat.reduceLT, Nat.reduceEqDiff, and_self, big0, big1, big2, big3, big4, big5, if_true, if_false, ite_true, ite_false, Bool.not_true, Bool.not_false, Bool.true_and, Bool.false_and,m_law_piece, F_law_piece, e0, el, e1, e2, es]
  · intro z
    have := congrArg List.length z
    simp at this
    omega
  · simp
    omega
/-- words of signs of z, none twice -/
structure Words (z : List Nat) (k : Nat) (ws : List (List Nat)) : Prop where
  nd : ws.Nodup
  ne : ∀ l ∈ ws, l ≠ []
  le : ∀ l ∈ ws, l.length ≤ k
  sg : ∀ l ∈ ws, ∀ c ∈ l, c ∈ z
abbrev abc : List Nat := [97, 98, 99]
theorem abc_eq : (Str.ofString "abc").cps.toList = abc := by decide +kernel
noncomputable def WsI : Fs := (fIfS (fB (fBin gEq (fE (fCall m_law_draw (fLend 0 (fCons (fC (.int 6)) fNil)) [some 0, none])) (fE (fC (.int 0))))) (fAsg (fCall m_law_word (fLend 0 (fCons (fC (.str "abc")) (fCons (fC (.int 3)) fNil))) [some 0, none, none]) (gN 6)) fNext)
noncomputable def WsB : Fs := (fSeq (fAsg (fCall m_law_piece (fLend 0 (fCons (fFz (fP 1)) (fCons (fFz (fP 3)) fNil))) [some 0, none, none]) (gN 6)) (fSeq WsI (fIfS (fB (fBin gNotInQ (fP 6) (fP 4))) (fX (fAppend 4 (fFz (fP 6)))) fNext)))
theorem words_ok {o : OD} {q : List Nat} {n k : Int} (hp : PotOk o) (hq0 : q ≠ []) (hql : q.length ≤ 1000) (hq : ∀ c ∈ q, c ∈ abc) (hn : 0 ≤ n) (hn2 : n ≤ 100) (hk : 3 ≤ k) (hk2 : k ≤ 100) :
    ∃ ws o', m_law_words [o, .st (.str (tx q)), .st (.int n), .st (.int k)] = some (wO ws, [some o', none, none, none]) ∧ PotOk o' ∧ Words abc k.toNat ws ∧ (ws.length : Int) ≤ n := by
  obtain ⟨d, o1, e1, d0, d1, hp1⟩ := draw_ok (n := n + 1) hp (by omega) (by omega)
  have lp := loopF_inv (tg := gN 5) (body := WsB)
    (I := fun i ρ => ∃ o ws s5 s6, PotOk o ∧ Words abc k.toNat ws ∧ ws.length ≤ i ∧ ρ = [some o, some (.st (.str (tx q))), some (.st (.int n)), some (.st (.int k)), some (wO ws), s5, s6])
    (ds := rngD 0 d.toNat) (i := 0) (ρ := [some o1, some (.st (.str (tx q))), some (.st (.int n)), some (.st (.int k)), some (.ol []), none, none])
    ⟨o1, [], none, none, hp1, ⟨.nil, (fun _ z => nomatch z), (fun _ z => nomatch z), fun _ z => nomatch z⟩, Nat.le_refl _, rfl⟩ (by
      rintro j dd ρ hd ⟨o2, ws, s5, s6, hp2, hw, hwl, rfl⟩
      have hj : j < d.toNat := by
        have := (List.getElem?_eq_some_iff.mp hd).1
        simpa [rngD] using this
      obtain ⟨l, o3, e3, hp3, l0, l1, l2⟩ := piece_ok (k := k) hp2 hq0 hql (by omega) hk2
      obtain ⟨d4, o4, e4, _, _, hp4⟩ := draw_ok (n := 6) hp3 (by omega) (by omega)
      have e5 := eqI d4 0
      -- the word that is taken
      obtain ⟨w, o5, e6, hp5, w0, w1, w2⟩ : ∃ w o5, WsI
          [some o3, some (.st (.str (tx q))), some (.st (.int n)), some (.st (.int k)), some (wO ws), some (.st dd), some (.st (.str (tx l)))] = some (.nx [some o5, some (.st (.str (tx q))), some (.st (.int n)), some (.st (.int k)), some (wO ws), some (.st dd), some (.st (.str (tx w)))]) ∧ PotOk o5 ∧ w ≠ [] ∧ (w.length : Int) ≤ k ∧ ∀ c ∈ w, c ∈ abc := by
        by_cases h : d4 = 0
        · have hd1 : decide (d4 = 0) = true := by simpa using h
          rw [hd1] at e5
          obtain ⟨w, o5, e7, hp5, w0, w1, w2⟩ := word_ok (o := o4) (z := "abc") (k := 3) hp4 (by rw [abc_eq]; simp) (by decide +kernel) (by omega) (by omega)
          exact ⟨w, o5, by simp only [runM, outsOf, fSeq, fRet, fAsg, gN, fFz, fPeek, fBack, fDrop, fBin, fUn, fC, fCons, fNil, fLend, fCall, fCallK, pick, List.filterMap_cons, List.filterMap_nil, putBack, fIfS, fB, fNot, fAnd, fOr, fAndV, fOrV, fNext, fIf, fX, fLst, fTup, fMov, fPar, gs2, gs3, gT, gsCons, gsNil, fYes, gAdd_i, gLt_i, gSub_i, gDiv_i, gMod_i, gGt_i, gLe_i, gGe_i, gInt_i, gNeg_i, gAbs_i, gMax_i, gMin_i, OD.val, valL, valL_st, fItS, fFor, fLc, wipeR, fPart, fNoPart, fSl, fAppend, fExtend, fPop, fGet2, fD1, fDNew, keyD, gSetQ, gSetI, gSetD, stK_map, fItR1, fLRg, List.getElem?_cons_succ, List.getElem?_cons_zero, List.set_cons_succ, List.set_cons_zero, List.length_cons, List.length_nil, List.map_cons, List.map_nil, Option.map_some, Option.map_none, Nat.zero_add, Nat.reduceAdd, Nat.reduceLT, Nat.reduceEqDiff, and_self, big0, big1, big2, big3, big4, big5, if_true, if_false, ite_true, ite_false, Bool.not_true, Bool.not_false, Bool.true_and, Bool.false_and,WsI, e4, e5, e7], hp5, w0, by omega, fun c hc => abc_eq ▸ w2 c hc⟩
        · have hd1 : decide (d4 = 0) = false := by simpa using h
          rw [hd1] at e5
          exact ⟨l, o4, by simp only [runM, outsOf, fSeq, fRet, fAsg, gN, fFz, fPeek, fBack, fDrop, fBin, fUn, fC, fCons, fNil, fLend, fCall, fCallK, pick, List.filterMap_cons, List.filterMap_nil, putBack, fIfS, fB, fNot, fAnd, fOr, fAndV, fOrV, fNext, fIf, fX, fLst, fTup, fMov, fPar, gs2, gs3, gT, gsCons, gsNil, fYes, gAdd_i, gLt_i, gSub_i, gDiv_i, gMod_i, gGt_i, gLe_i, gGe_i, gInt_i, gNeg_i, gAbs_i, gMax_i, gMin_i, OD.val, valL, valL_st, fItS, fFor, fLc, wipeR, fPart, fNoPart, fSl, fAppend, fExtend, fPop, fGet2, fD1, fDNew, keyD, gSetQ, gSetI, gSetD, stK_map, fItR1, fLRg, List.getElem?_cons_succ, List.getElem?_cons_zero, List.set_cons_succ, List.set_cons_zero, List.length_cons, List.length_nil, List.map_cons, List.map_nil, Option.map_some, Option.map_none, Nat.zero_add, Nat.reduceAdd, Nat.reduceLT, Nat.reduceEqDiff, and_self, big0, big1, big2, big3, big4, big5, if_true, if_false, ite_true, ite_false, Bool.not_true, Bool.not_false, Bool.true_and, Bool.false_and,WsI, e4, e5], hp4, l0, l1, fun c hc => hq c (l2 c hc)⟩
      have e8 := notIn_w (l := w) (seq_wO ws)
      have hb : ((wD ws).map OD.st).length ≤ big := by simp [big]; omega
      by_cases hm : w ∈ ws
      · have hd2 : decide (w ∈ ws) = true := by simpa using hm
        rw [hd2] at e8
        refine ⟨_, [some o5, some (.st (.str (tx q))), some (.st (.int n)), some (.st (.int k)), some (wO ws), some (.st dd), some (.st (.str (tx w)))], by simp only [runM, outsOf, fSeq, fRet, fAsg, gN, fFz, fPeek, fBack, fDrop, fBin, fUn, fC, fCons, fNil, fLend, fCall, fCallK, pick, List.filterMap_cons, List.filterMap_nil, putBack, fIfS, fB, fNot, fAnd, fOr, fAndV, fOrV, fNext, fIf, fX, fLst, fTup, fMov, fPar, gs2, gs3, gT, gsCons, gsNil, fYes, gAdd_i, gLt_i, gSub_i, gDiv_i, gMod_i, gGt_i, gLe_i, gGe_i, gInt_i, gNeg_i, gAbs_i, gMax_i, gMin_i, OD.val, valL, valL_st, fItS, fFor, fLc, wipeR, fPart, fNoPart, fSl, fAppend, fExtend, fPop, fGet2, fD1, fDNew, keyD, gSetQ, gSetI, gSetD, stK_map, fItR1, fLRg, List.getElem?_cons_succ, List.getElem?_cons_zero, List.set_cons_succ, List.set_cons_zero, List.length_cons, List.length_nil, List.map_cons, List.map_nil, Option.map_some, Option.map_none, Nat.zero_add, Nat.reduceAdd, Nat.reduceLT, Nat.reduceEqDiff, and_self, big0, big1, big2, big3, big4, big5, if_true, if_false, ite_true, ite_false, Bool.not_true, Bool.not_false, Bool.true_and, Bool.false_and]; rfl, ?_, o5, ws, _, _, hp5, hw, by omega, rfl⟩
        simp only [runM, outsOf, fSeq, fRet, fAsg, gN, fFz, fPeek, fBack, fDrop, fBin, fUn, fC, fCons, fNil, fLend, fCall, fCallK, pick, List.filterMap_cons, List.filterMap_nil, putBack, fIfS, fB, fNot, fAnd, fOr, fAndV, fOrV, fNext, fIf, fX, fLst, fTup, fMov, fPar, gs2, gs3, gT, gsCons, gsNil, fYes, gAdd_i, gLt_i, gSub_i, gDiv_i, gMod_i, gGt_i, gLe_i, gGe_i, gInt_i, gNeg_i, gAbs_i, gMax_i, gMin_i, OD.val, valL, valL_st, fItS, fFor, fLc, wipeR, fPart, fNoPart, fSl, fAppend, fExtend, fPop, fGet2, fD1, fDNew, keyD, gSetQ, gSetI, gSetD, stK_map, fItR1, fLRg, List.getElem?_cons_succ, List.getElem?_cons_zero, List.set_cons_succ, List.set_cons_zero, List.length_cons, List.length_nil, List.map_cons, List.map_nil, Option.map_some, Option.map_none, Nat.zero_add, Nat.reduceAdd, Nat.reduceLT, Nat.reduceEqDiff, and_self, big0, big1, big2, big3, big4, big5, if_true, if_false, ite_true, ite_false, Bool.not_true, Bool.not_false, Bool.true_and, Bool.false_and,WsB, e3, e6, e8]
      · have hd2 : decide (w ∈ ws) = false := by simpa using hm
        rw [hd2] at e8
        have ea : (wD ws).map OD.st ++ [.st (.str (tx w))] = (wD (ws ++ [w])).map OD.st := by simp
        refine ⟨_, [some o5, some (.st (.str (tx q))), some (.st (.int n)), some (.st (.int k)), some (wO (ws ++ [w])), some (.st dd), some (.st (.str (tx w)))], by simp only [runM, outsOf, fSeq, fRet, fAsg, gN, fFz, fPeek, fBack, fDrop, fBin, fUn, fC, fCons, fNil, fLend, fCall, fCallK, pick, List.filterMap_cons, List.filterMap_nil, putBack, fIfS, fB, fNot, fAnd, fOr, fAndV, fOrV, fNext, fIf, fX, fLst, fTup, fMov, fPar, gs2, gs3, gT, gsCons, gsNil, fYes, gAdd_i, gLt_i, gSub_i, gDiv_i, gMod_i, gGt_i, gLe_i, gGe_i, gInt_i, gNeg_i, gAbs_i, gMax_i, gMin_i, OD.val, valL, valL_st, fItS, fFor, fLc, wipeR, fPart, fNoPart, fSl, fAppend, fExtend, fPop, fGet2, fD1, fDNew, keyD, gSetQ, gSetI, gSetD, stK_map, fItR1, fLRg, List.getElem?_cons_succ, List.getElem?_cons_zero, List.set_cons_succ, List.set_cons_zero, List.length_cons, List.length_nil, List.map_cons, List.map_nil, Option.map_some, Option.map_none, Nat.zero_add, Nat.reduceAdd, Nat.reduceLT, Nat.reduceEqDiff, and_self, big0, big1, big2, big3, big4, big5, if_true, if_false, ite_true, ite_false, Bool.not_true, Bool.not_false, Bool.true_and, Bool.false_and]; rfl, ?_, o5, ws ++ [w], _, _, hp5, ?_, by simp; omega, rfl⟩
        · simp only [runM, outsOf, fSeq, fRet, fAsg, gN, fFz, fPeek, fBack, fDrop, fBin, fUn, fC, fCons, fNil, fLend, fCall, fCallK, pick, List.filterMap_cons, List.filterMap_nil, putBack, fIfS, fB, fNot, fAnd, fOr, fAndV, fOrV, fNext, fIf, fX, fLst, fTup, fMov, fPar, gs2, gs3, gT, gsCons, gsNil, fYes, gAdd_i, gLt_i, gSub_i, gDiv_i, gMod_i, gGt_i, gLe_i, gGe_i, gInt_i, gNeg_i, gAbs_i, gMax_i, gMin_i, OD.val, valL, valL_st, fItS, fFor, fLc, wipeR, fPart, fNoPart, fSl, fAppend, fExtend, fPop, fGet2, fD1, fDNew, keyD, gSetQ, gSetI, gSetD, stK_map, fItR1, fLRg, List.getElem?_cons_succ, List.getElem?_cons_zero, List.set_cons_succ, List.set_cons_zero, List.length_cons, List.length_nil, List.map_cons, List.map_nil, Option.map_some, Option.map_none, Nat.zero_add, Nat.reduceAdd, Nat.reduceLT, Nat.reduceEqDiff, and_self, big0, big1, big2, big3, big4, big5, if_true, if_false, ite_true, ite_false, Bool.not_true, Bool.not_false, Bool.true_and, Bool.false_and,WsB, e3, e6, e8, if_pos hb, ea]
        · have key : ∀ {P : List Nat → Prop}, (∀ l ∈ ws, P l) → P w → ∀ l ∈ ws ++ [w], P l := fun h1 h2 l hl => by
            rcases List.mem_append.mp hl with h | h
            · exact h1 l h
            · have : l = w := by simpa using h
              subst this; exact h2
          refine ⟨?_, key hw.ne w0, key hw.le (by omega), key hw.sg w2⟩
          rw [List.nodup_append]
          exact ⟨hw.nd, by simp, fun x hx y hy z => hm (by
            have : y = w := by simpa using hy
            rw [← this, ← z]; exact hx)⟩)
  obtain ⟨ρ', e2, o2, ws, s5, s6, hp2, hw, hwl, rfl⟩ := lp
  have hlen : (rngD 0 d.toNat).length = d.toNat := by simp [rngD]
  rw [hlen] at hwl
  refine ⟨ws, o2, ?_, hp2, hw, by omega⟩
  have c1 : -(2 ^ 62) ≤ d ∧ d < 2 ^ 62 := by omega
  have e0 : rho0 N_law_words [o, .st (.str (tx q)), .st (.int n), .st (.int k)] = [some o, some (.st (.str (tx q))), some (.st (.int n)), some (.st (.int k)), none, none, none] := rfl
  have eF : F_law_words = (fSeq (fAsg (fLst fNil) (gN 4)) (fSeq (fFor (fItR1 (fCons (fCall m_law_draw (fLend 0 (fCons (fFz (fE (fBin gAdd (fP 2) (fE (fC (.int 1)))))) fNil)) [some 0, none]) fNil)) (gN 5) WsB) (fRet (fMov 4)))) := rfl
  rw [m_law_words, runM, eF]
  simp only [runM, outsOf, fSeq, fRet, fAsg, gN, fFz, fPeek, fBack, fDrop, fBin, fUn, fC, fCons, fNil, fLend, fCall, fCallK, pick, List.filterMap_cons, List.filterMap_nil, putBack, fIfS, fB, fNot, fAnd, fOr, fAndV, fOrV, fNext, fIf, fX, fLst, fTup, fMov, fPar, gs2, gs3, gT, gsCons, gsNil, fYes, gAdd_i, gLt_i, gSub_i, gDiv_i, gMod_i, gGt_i, gLe_i, gGe_i, gInt_i, gNeg_i, gAbs_i, gMax_i, gMin_i, OD.val, valL, valL_st, fItS, fFor, fLc, wipeR, fPart, fNoPart, fSl, fAppend, fExtend, fPop, fGet2, fD1, fDNew, keyD, gSetQ, gSetI, gSetD, stK_map, fItR1, fLRg, List.getElem?_cons_succ, List.getElem?_cons_zero, List.set_cons_succ, List.set_cons_zero, List.length_cons, List.length_nil, List.map_cons, List.map_nil, Option.map_some, Option.map_none, Nat.zero_add, Nat.reduceAdd, Nat.reduceLT, Nat.reduceEqDiff, and_self, big0, big1, big2, big3, big4, big5, if_true, if_false, ite_true, ite_false, Bool.not_true, Bool.not_false, Bool.true_and, Bool.false_and,e0, e1, c1, e2]
theorem len_iO {ks : List Int} : gLen (iO ks) = some (.st (.int (ks.length : Int))) := by
  unfold gLen
  rw [rd_ol]
  simp
end Lw
set_option Elab.async false
set_option linter.all false
set_option maxRecDepth 100000
set_option maxHeartbeats 400000
namespace Lw
open PySem L2 Qy
/-- words as data -/
abbrev pW (ws : List (List Nat)) : List PyData := ws.map fun w => .str (tx w)
theorem eqvAll_w : ∀ a b : List (List Nat), PyData.eqvAll (pW a) (pW b) = decide (a = b)
  | [], [] => rfl
  | [], _ :: _ => rfl
  | _ :: _, [] => rfl
  | x :: a, y :: b => by
    show (PyData.eqv (.str (tx x)) (.str (tx y)) && PyData.eqvAll (pW a) (pW b)) = _
    rw [eqv_s, eqvAll_w a b]
    by_cases h1 : x = y
    · by_cases h2 : a = b
      · simp [h1, h2]
      · simp [h1, h2]
    · simp [h1]
theorem shaped_wT {ws : List (List Nat)} (h : ∀ w ∈ ws, Sm w) : SeqAt.shaped (.tuple (pW ws)) = true := by
  have := shaped_w h
  exact this
theorem py_wT (ws : List (List Nat)) : OD.py (.st (.tup (wD ws))) = some (.tuple (pW ws)) := by
  show (pyL (wD ws)).map PyData.tuple = _
  rw [pyL_w]
  rfl
theorem py_wL (ws : List (List Nat)) : OD.py (.st (.lst (wD ws))) = some (.list (pW ws)) := by
  show (pyL (wD ws)).map PyData.list = _
  rw [pyL_w]
  rfl
theorem py_wO (ws : List (List Nat)) : OD.py (wO ws) = some (.list (pW ws)) := by
  show (OD.val (.ol ((wD ws).map .st))).py = _
  rw [val_ol]
  exact py_wL ws
theorem eq_wT {a b : List (List Nat)} (ha : ∀ w ∈ a, Sm w) (hb : ∀ w ∈ b, Sm w) : gEq (.st (.tup (wD a))) (.st (.tup (wD b))) = some (.st (.bl (decide (a = b)))) := by
  unfold gEq
  rw [py_wT, py_wT]
  simp only
  rw [if_pos ⟨shaped_wT ha, shaped_wT hb⟩]
  show some (OD.st (.bl (PyData.eqvAll (pW a) (pW b)))) = _
  rw [eqvAll_w]
theorem eq_wL {a b : List (List Nat)} {x y : OD} (hx : x.py = some (.list (pW a))) (hy : y.py = some (.list (pW b))) (ha : ∀ w ∈ a, Sm w) (hb : ∀ w ∈ b, Sm w) : gEq x y = some (.st (.bl (decide (a = b)))) := by
  unfold gEq
  rw [hx, hy]
  simp only
  rw [if_pos ⟨shaped_w ha, shaped_w hb⟩]
  show some (OD.st (.bl (PyData.eqvAll (pW a) (pW b)))) = _
  rw [eqvAll_w]
theorem ne_wL {a b : List (List Nat)} {x y : OD} (hx : x.py = some (.list (pW a))) (hy : y.py = some (.list (pW b))) (ha : ∀ w ∈ a, Sm w) (hb : ∀ w ∈ b, Sm w) : gNe x y = some (.st (.bl (!decide (a = b)))) := by
  unfold gNe
  rw [hx, hy]
  simp only
  rw [if_pos ⟨shaped_w ha, shaped_w hb⟩]
  show some (OD.st (.bl (!PyData.eqvAll (pW a) (pW b)))) = _
  rw [eqvAll_w]
theorem WOk.s {ws : List (List Nat)} (h : WOk ws) : ∀ w ∈ ws, Sm w := fun w hw => (h.low w hw).sm
theorem Lot_eq_ok {a b : List (List Nat)} (ha : WOk a) (hb : WOk b) : m_Lot_eq [.st (lotD a), .st (lotD b)] = some (.st (.bl (decide (a = b))), [none, none]) := by
  have e1 := eq_wT ha.s hb.s
  have e2 : gIsiC "Lot" (.st (lotD b)) = some (.st (.bl true)) := rfl
  have e3 := lot_words a
  have e4 := lot_words b
  have e0 : rho0 N_Lot_eq [.st (lotD a), .st (lotD b)] = [some (.st (lotD a)), some (.st (lotD b))] := rfl
  simp only [runM, outsOf, fSeq, fRet, fAsg, gN, fFz, fPeek, fBack, fDrop, fBin, fUn, fC, fCons, fNil, fLend, fCall, fCallK, pick, List.filterMap_cons, List.filterMap_nil, putBack, fIfS, fB, fNot, fAnd, fOr, fAndV, fOrV, fNext, fIf, fX, fLst, fTup, fMov, fPar, gs2, gs3, gT, gsCons, gsNil, fYes, gAdd_i, gLt_i, gSub_i, gDiv_i, gMod_i, gGt_i, gLe_i, gGe_i, gInt_i, gNeg_i, gAbs_i, gMax_i, gMin_i, OD.val, valL, valL_st, fItS, fFor, fLc, wipeR, fPart, fNoPart, fSl, fAppend, fExtend, fPop, fGet2, fD1, fDNew, keyD, gSetQ, gSetI, gSetD, stK_map, fItR1, fLRg, List.getElem?_cons_succ, List.getElem?_cons_zero, List.set_cons_succ, List.set_cons_zero, List.length_cons, List.length_nil, List.map_cons, List.map_nil, Option.map_some, Option.map_none, Nat.zero_add, Nat.reduceAdd, Nat.reduceLT, Nat.reduceEqDiff, and_self, big0, big1, big2, big3, big4, big5, if_true, if_false, ite_true, ite_false, Bool.not_true, Bool.not_false, Bool.true_and, Bool.false_and,m_Lot_eq, F_Lot_eq, e0, e2, e3, e4, e1]
theorem own_eq {a b : List (List Nat)} (ha : WOk a) (hb : WOk b) : gOwnEq "Lot" m_Lot_eq (.st (lotD a)) (.st (lotD b)) = some (.st (.bl (decide (a = b)))) := by
  have e := Lot_eq_ok ha hb
  unfold gOwnEq
  simp only [and_self, if_true, e]
  rfl
end Lw
set_option Elab.async false
set_option linter.all false
set_option maxRecDepth 100000
set_option maxHeartbeats 400000
namespace Lw
open PySem L2 Qy
theorem sumT : ∀ ls : List (List Nat), ((ls.map tx).map (·.length)).sum = ls.flatten.length
  | [] => rfl
  | a :: r => by
    have h : (tx a).length = a.length := by show a.toArray.size = _; simp
    rw [List.map_cons, List.map_cons, List.sum_cons, sumT r, List.flatten_cons, List.length_append, h]
theorem join_ws {ls : List (List Nat)} (h : ls.flatten.length ≤ big) : gJoin (.st (.str "")) (.ol ((wD ls).map .st)) = some (.st (.str (tx ls.flatten))) := by
  have e4 : strsOf (wD ls) = some (ls.map tx) := by
    rw [← strsOf_map, List.map_map]
    rfl
  have z0 : (Str.ofString "").length = 0 := by decide +kernel
  unfold gJoin
  rw [rd_ol]
  simp only [e4, sumT, z0, Nat.mul_zero, Nat.add_zero, if_pos h]
  rw [join0]
theorem flat_le {k : Nat} : ∀ (ls : List (List Nat)), (∀ w ∈ ls, w.length ≤ k) → ls.flatten.length ≤ k * ls.length
  | [], _ => by simp
  | a :: r, h => by
    have h1 := flat_le r fun w hw => h w (List.mem_cons_of_mem _ hw)
    have h2 := h a List.mem_cons_self
    rw [List.flatten_cons, List.length_append, List.length_cons, Nat.mul_succ]
    omega
/-- signs that a word may have -/
def Sg (z : Str) : Prop := z.cps.toList ≠ [] ∧ z.cps.size < 1000 ∧ ∀ c ∈ z.cps.toList, c ∈ abc
theorem Sg.low {z : Str} (h : Sg z) {l : List Nat} (hl : ∀ c ∈ l, c ∈ z.cps.toList) : Low l := fun c hc => by
  have := h.2.2 c (hl c hc)
  simp at this
  omega
noncomputable def RtE : Fe := (fFz (fE (fCall m_law_pick (fLend 0 (fCons (fFz (fP 2)) fNil)) [some 0, none])))
theorem picksL {ws : List (List Nat)} {x1 x3 x4 x5 : Option OD} (h0 : ws ≠ []) (hl : ws.length ≤ 10) : ∀ (ds : List D) (acc : List (List Nat)) (o : OD), PotOk o → acc.length + ds.length ≤ 100 →
    ∃ ls o', compL [6] (gN 6) fYes RtE ds [some o, x1, some (.st (.lst (wD ws))), x3, x4, x5, none] ((wD acc).map .st) = some ((wD (acc ++ ls)).map .st, [some o', x1, some (.st (.lst (wD ws))), x3, x4, x5, none]) ∧ ls.length = ds.length ∧ (∀ w ∈ ls, w ∈ ws) ∧ PotOk o'
  | [], acc, o, hp, _ => ⟨[], o, by simp [compL], rfl, (fun _ z => nomatch z), hp⟩
  | d :: ds, acc, o, hp, hb => by
    simp only [List.length_cons] at hb
    obtain ⟨e, o1, he, e1, hp1⟩ := pick_ok (ds := wD ws) hp (by simpa [wD] using h0) (by simp; omega)
    obtain ⟨w, hw, rfl⟩ := List.mem_map.mp he
    obtain ⟨ls, o', e2, h2, h3, hp'⟩ := picksL (x1 := x1) (x3 := x3) (x4 := x4) (x5 := x5) h0 hl ds (acc ++ [w]) o1 hp1 (by simp; omega)
    refine ⟨w :: ls, o', ?_, by simp [h2], fun u hu => ?_, hp'⟩
    · have eg : gN 6 (.st d) [some o, x1, some (.st (.lst (wD ws))), x3, x4, x5, none] = some [some o, x1, some (.st (.lst (wD ws))), x3, x4, x5, some (.st d)] := by simp [gN]
      have ea : (wD acc).map OD.st ++ [.st (.str (tx w))] = (wD (acc ++ [w])).map OD.st := by simp
      have et : RtE [some o, x1, some (.st (.lst (wD ws))), x3, x4, x5, some (.st d)] = some (.st (.str (tx w)), [some o1, x1, some (.st (.lst (wD ws))), x3, x4, x5, some (.st d)]) := by
        simp only [runM, outsOf, fSeq, fRet, fAsg, gN, fFz, fPeek, fBack, fDrop, fBin, fUn, fC, fCons, fNil, fLend, fCall, fCallK, pick, List.filterMap_cons, List.filterMap_nil, putBack, fIfS, fB, fNot, fAnd, fOr, fAndV, fOrV, fNext, fIf, fX, fLst, fTup, fMov, fPar, gs2, gs3, gT, gsCons, gsNil, fYes, gAdd_i, gLt_i, gSub_i, gDiv_i, gMod_i, gGt_i, gLe_i, gGe_i, gInt_i, gNeg_i, gAbs_i, gMax_i, gMin_i, OD.val, valL, valL_st, fItS, fFor, fLc, wipeR, fPart, fNoPart, fSl, fAppend, fExtend, fPop, fGet2, fD1, fDNew, keyD, gSetQ, gSetI, gSetD, stK_map, fItR1, fLRg, List.getElem?_cons_succ, List.getElem?_cons_zero, List.set_cons_succ, List.set_cons_zero, List.length_cons, List.length_nil, List.map_cons, List.map_nil, Option.map_some, Option.map_none, Nat.zero_add, Nat.reduceAdd, Nat.reduceLT, Nat.reduceEqDiff, and_self, big0, big1, big2, big3, big4, big5, if_true, if_false, ite_true, ite_false, Bool.not_true, Bool.not_false, Bool.true_and, Bool.false_and,RtE, e1]
      rw [compL_t eg (by rfl) et (by simp [big]; omega), ea]
      rw [List.append_assoc] at e2
      simp only [wipeR, List.set_cons_succ, List.set_cons_zero]
      exact e2
    · rcases List.mem_cons.mp hu with rfl | hu
      · exact hw
      · exact h3 u hu
theorem win_iff {q w : List Nat} {p : Nat} (h : p + w.length ≤ q.length) : (q.drop p).take w.length = w ↔ ∀ i, i < w.length → q[p + i]? = w[i]? := by
  constructor
  · intro e i hi
    have : ((q.drop p).take w.length)[i]? = w[i]? := by rw [e]
    rw [List.getElem?_take, if_pos hi, List.getElem?_drop] at this
    exact this
  · intro e
    apply List.ext_getElem?
    intro i
    by_cases hi : i < w.length
    · rw [List.getElem?_take, if_pos hi, List.getElem?_drop, e i hi]
    · rw [List.getElem?_take, if_neg hi, List.getElem?_eq_none (by omega)]
theorem occ_iff {q w : List Nat} {p : Nat} : p ∈ occ q w ↔ p + w.length ≤ q.length ∧ ∀ i, i < w.length → q[p + i]? = w[i]? := by
  unfold occ
  rw [List.mem_filter, List.mem_range, decide_eq_true_eq]
  constructor
  · rintro ⟨h1, h2⟩
    have h3 : p + w.length ≤ q.length := by omega
    exact ⟨h3, (win_iff h3).mp h2⟩
  · rintro ⟨h1, h2⟩
    exact ⟨by omega, (win_iff h1).mpr h2⟩
theorem occ_nd (q w : List Nat) : (occ q w).Nodup := List.nodup_range.sublist List.filter_sublist
theorem perm_of {α : Type} [DecidableEq α] {a b : List α} (ha : a.Nodup) (hb : b.Nodup) (h : ∀ x, x ∈ a ↔ x ∈ b) : a.Perm b := List.perm_iff_count.mpr fun x => by
  rw [ha.count, hb.count]
  simp only [h x]
theorem eB_mem {q : List Nat} {ws : List (List Nat)} {a b : Int} : (a, b) ∈ eB (bT q ws) ↔ ∃ w ∈ ws, ∃ p ∈ occ q w, a = (p : Int) ∧ b = (p : Int) + (w.length : Int) := by
  unfold eB
  rw [List.mem_map]
  constructor
  · rintro ⟨t, ht, e⟩
    obtain ⟨w, hw, p, hp, rfl⟩ := bT_mem.mp ht
    simp only [Prod.mk.injEq] at e
    exact ⟨w, hw, p, hp, e.1.symm, e.2.symm⟩
  · rintro ⟨w, hw, p, hp, rfl, rfl⟩
    exact ⟨_, bT_mem.mpr ⟨w, hw, p, hp, rfl⟩, rfl⟩
theorem Rch.map {E F : List (Int × Int)} {f : Int → Int} (h : ∀ a b, (a, b) ∈ E → (f a, f b) ∈ F) {a b : Int} (r : Rch E a b) : Rch F (f a) (f b) := by
  induction r with
  | here => exact .here
  | step _ e ih => exact .step ih (h _ _ e)
def swapE (E : List (Int × Int)) : List (Int × Int) := E.map fun p => (p.2, p.1)
theorem swap_mem {E : List (Int × Int)} {a b : Int} : (a, b) ∈ swapE E ↔ (b, a) ∈ E := by
  unfold swapE
  rw [List.mem_map]
  constructor
  · rintro ⟨⟨x, y⟩, hp, e⟩
    simp only [Prod.mk.injEq] at e
    rw [← e.1, ← e.2]
    exact hp
  · exact fun h => ⟨_, h, rfl⟩
theorem abc_iff {c : Nat} : c ∈ abc ↔ c = 97 ∨ c = 98 ∨ c = 99 := by simp [abc]
theorem trues {α : Type} (l : List α) : gAll (.ol (l.map fun _ => OD.st (.bl true))) = some (.st (.bl true)) := by
  have := all_true l
  rw [List.map_map] at this
  exact this
theorem forth_to_ok {q : List Nat} {ws : List (List Nat)} (hq : QOk q) (hw : WOk ws) {i : Int} (h0 : 0 ≤ i) (h1 : i ≤ (q.length : Int)) : m_forth_to [.st (lotD ws), .st (.str (tx q)), .st (.int i)] = some (iO (rl (swapE (eB (bT q ws))) (q.length + 1) i), [none, none, none]) := by
  have e1 := bridges_of_ok hq hw
  have f1 := want_question_ok hq.low hq.ne hq.len
  have f2 := want_place_ok hq.len h0 h1
  have hB := bT_ok (q := q) hw.ne hq.len hw.num
  have hlen := hB.len
  have hne : 0 < q.length := List.length_pos_iff.mpr hq.ne
  have e4 := spread_ok (E := swapE (eB (bT q ws))) (s := i) (n := q.length + 1) (by simp [swapE]; omega) (by have := hq.len; omega) (fun x hx => hB.bd ⟨by omega, by omega⟩ x (hx.mono fun p hp => by
    obtain ⟨a, b⟩ := p
    exact both_mem.mpr (.inr (swap_mem.mp hp))))
  generalize bT q ws = B at *
  have e2 := compS (α := Tri) (enc := fun t => .tup [.int t.1, .int t.2.1, .str t.2.2]) (own := [3, 4, 5]) (tg := (gT 3 (gsCons (gN 3) (gsCons (gN 4) (gsCons (gN 5) gsNil))))) (tt := fYes) (te := (fTup (fCons (fFz (fP 4)) (fCons (fFz (fP 3)) fNil)))) (ρ0 := [some (.st (lotD ws)), some (.st (.str (tx q))), some (.st (.int i)), none, none, none])
    (r := fun t => some (.st (.tup [.int t.2.1, .int t.1]))) (as := B) (acc := []) (by
      intro t ht
      unfold stepC
      generalize lotD ws = l
      simp only [runM, outsOf, fSeq, fRet, fAsg, gN, fFz, fPeek, fBack, fDrop, fBin, fUn, fC, fCons, fNil, fLend, fCall, fCallK, pick, List.filterMap_cons, List.filterMap_nil, putBack, fIfS, fB, fNot, fAnd, fOr, fAndV, fOrV, fNext, fIf, fX, fLst, fTup, fMov, fPar, gs2, gs3, gT, gsCons, gsNil, fYes, gAdd_i, gLt_i, gSub_i, gDiv_i, gMod_i, gGt_i, gLe_i, gGe_i, gInt_i, gNeg_i, gAbs_i, gMax_i, gMin_i, OD.val, valL, valL_st, fItS, fFor, fLc, wipeR, fPart, fNoPart, fSl, fAppend, fExtend, fPop, fGet2, fD1, fDNew, keyD, gSetQ, gSetI, gSetD, stK_map, fItR1, fLRg, List.getElem?_cons_succ, List.getElem?_cons_zero, List.set_cons_succ, List.set_cons_zero, List.length_cons, List.length_nil, List.map_cons, List.map_nil, Option.map_some, Option.map_none, Nat.zero_add, Nat.reduceAdd, Nat.reduceLT, Nat.reduceEqDiff, and_self, big0, big1, big2, big3, big4, big5, if_true, if_false, ite_true, ite_false, Bool.not_true, Bool.not_false, Bool.true_and, Bool.false_and,]) (by simp [big]; omega)
  rw [List.nil_append, filterMap_some] at e2
  have e3 : B.map (fun t => OD.st (.tup [.int t.2.1, .int t.1])) = (pD (swapE (eB B))).map .st := by
    simp only [pD, eB, swapE, List.map_map]
    rfl
  rw [e3] at e2
  have e2' : compL [3, 4, 5] (gT 3 (gsCons (gN 3) (gsCons (gN 4) (gsCons (gN 5) gsNil)))) fYes (fTup (fCons (fFz (fP 4)) (fCons (fFz (fP 3)) fNil))) (tD B) [some (.st (lotD ws)), some (.st (.str (tx q))), some (.st (.int i)), none, none, none] [] = some ((pD (swapE (eB B))).map .st, [some (.st (lotD ws)), some (.st (.str (tx q))), some (.st (.int i)), none, none, none]) := e2
  have e0 : rho0 N_forth_to [.st (lotD ws), .st (.str (tx q)), .st (.int i)] = [some (.st (lotD ws)), some (.st (.str (tx q))), some (.st (.int i)), none, none, none] := rfl
  have v1 := valL_st (tD B)
  have v2 := valL_st (pD (swapE (eB B)))
  generalize tD B = L at *
  generalize pD (swapE (eB B)) = M at *
  generalize iO (rl (swapE (eB B)) (q.length + 1) i) = R at *
  generalize lotD ws = l at *
  simp only [runM, outsOf, fSeq, fRet, fAsg, gN, fFz, fPeek, fBack, fDrop, fBin, fUn, fC, fCons, fNil, fLend, fCall, fCallK, pick, List.filterMap_cons, List.filterMap_nil, putBack, fIfS, fB, fNot, fAnd, fOr, fAndV, fOrV, fNext, fIf, fX, fLst, fTup, fMov, fPar, gs2, gs3, gT, gsCons, gsNil, fYes, gAdd_i, gLt_i, gSub_i, gDiv_i, gMod_i, gGt_i, gLe_i, gGe_i, gInt_i, gNeg_i, gAbs_i, gMax_i, gMin_i, OD.val, valL, valL_st, fItS, fFor, fLc, wipeR, fPart, fNoPart, fSl, fAppend, fExtend, fPop, fGet2, fD1, fDNew, keyD, gSetQ, gSetI, gSetD, stK_map, fItR1, fLRg, List.getElem?_cons_succ, List.getElem?_cons_zero, List.set_cons_succ, List.set_cons_zero, List.length_cons, List.length_nil, List.map_cons, List.map_nil, Option.map_some, Option.map_none, Nat.zero_add, Nat.reduceAdd, Nat.reduceLT, Nat.reduceEqDiff, and_self, big0, big1, big2, big3, big4, big5, if_true, if_false, ite_true, ite_false, Bool.not_true, Bool.not_false, Bool.true_and, Bool.false_and,m_forth_to, F_forth_to, e0, f1, f2, e1, e2', e4]
theorem abc_low {l : List Nat} (h : ∀ c ∈ l, c ∈ abc) : Low l := fun c hc => by
  have := abc_iff.mp (h c hc)
  omega
theorem ne_iO {a b : List Int} (h : a = b) : gNe (iO a) (iO b) = some (.st (.bl false)) := by
  subst h
  exact ne_py (py_iO a) (py_iO a) (shaped_i a)
theorem add_tx {x y : List Nat} (h : x.length + y.length ≤ 1000) : gAdd (.st (.str (tx x))) (.st (.str (tx y))) = some (.st (.str (tx (x ++ y)))) := by
  rw [gAdd_s (by rw [tx_len, tx_len]; simp [big]; omega), tx_app]
theorem any_bools : ∀ bs : List Bool, gAny (.ol ((bs.map D.bl).map .st)) = some (.st (.bl (bs.any id))) := by
  intro bs
  unfold gAny
  rw [rd_ol]
  have : ∀ bs : List Bool, blsOf (bs.map D.bl) = some bs := fun bs => by
    induction bs with
    | nil => rfl
    | cons b r ih => simp [blsOf, ih]
  simp only
  rw [this]
  rfl
theorem fold_app : ∀ (ls : List (Array Nat)) (a : Array Nat), (ls.foldl (· ++ ·) a).toList = a.toList ++ (ls.map (·.toList)).flatten
  | [], a => by simp
  | x :: r, a => by
    rw [List.foldl_cons, fold_app r]
    simp
theorem mulN_tx {l : List Nat} {n : Nat} (h : l ≠ []) (hn : 2 ≤ n) : Txt.mul (tx l) (n : Int) = tx (List.replicate n l).flatten := by
  have hl : (tx l).length = l.length := tx_len l
  have hp := List.length_pos_iff.mpr h
  unfold Txt.mul
  rw [if_neg (by omega)]
  have h0 : (((n : Int) == 1) || ((tx l).length == 0)) = false := by
    rw [hl, Bool.or_eq_false_iff]
    constructor
    · simp; omega
    · simpa using h
  rw [h0, if_neg (by simp)]
  have e : ((List.replicate (n : Int).toNat (tx l).cps).foldl (· ++ ·) #[]) = (List.replicate n l).flatten.toArray := by
    apply Array.toList_inj.mp
    rw [fold_app]
    simp [tx]
  rw [e]
end Lw
set_option Elab.async false
set_option linter.all false
set_option maxRecDepth 100000
set_option maxHeartbeats 400000
namespace Lw
open PySem L2 Qy
theorem cut_pre {q : List Nat} {a : Nat} : cutS (tx q) none (some (a : Int)) = tx (q.take a) := by
  show (⟨((q.drop (HT.sIx q.length 0 none)).take (HT.sIx q.length q.length (some (a : Int)) - HT.sIx q.length 0 none)).toArray⟩ : Str) = _
  rw [HT.sIx_nat, HT.sIx_none, List.drop_zero, Nat.sub_zero]
  by_cases h : a ≤ q.length
  · rw [Nat.min_eq_left h]
  · rw [Nat.min_eq_right (by omega), List.take_of_length_le (Nat.le_refl _), List.take_of_length_le (by omega)]
theorem cut_post {q : List Nat} {a : Nat} : cutS (tx q) (some (a : Int)) none = tx (q.drop a) := by
  show (⟨((q.drop (HT.sIx q.length 0 (some (a : Int)))).take (HT.sIx q.length q.length none - HT.sIx q.length 0 (some (a : Int)))).toArray⟩ : Str) = _
  rw [HT.sIx_nat, HT.sIx_none]
  congr 2
  by_cases h : a ≤ q.length
  · rw [Nat.min_eq_left h, List.take_of_length_le (by simp)]
  · rw [Nat.min_eq_right (by omega), List.drop_eq_nil_of_le (Nat.le_refl _), List.drop_eq_nil_of_le (by omega)]
    simp
theorem cut_neg {t : List Nat} {m : Nat} (h1 : 1 ≤ m) (h2 : m ≤ t.length) : cutS (tx t) (some (-(m : Int))) none = tx (t.drop (t.length - m)) := by
  unfold cutS
  have e : HT.sIx (tx t).length 0 (some (-(m : Int))) = t.length - m := by
    show (if (-(m : Int)) < 0 then ((-(m : Int)) + ((tx t).length : Int)).toNat else _) = _
    rw [if_pos (by omega), tx_len]
    omega
  rw [e]
  show tx _ = _
  simp [HT.sIx, tx_len]
  exact List.take_of_length_le (by rw [List.length_drop]; omega)
/-! ### forth within a part of a question -/
theorem edge_fw {q : List Nat} {ws : List (List Nat)} (hw : ∀ w ∈ ws, w ≠ []) {a b : Int} (h : (a, b) ∈ eB (bT q ws)) : 0 ≤ a ∧ a < b ∧ b ≤ (q.length : Int) := by
  obtain ⟨w, m, p, hp, rfl, rfl⟩ := eB_mem.mp h
  have := (occ_iff.mp hp).1
  have := List.length_pos_iff.mpr (hw w m)
  omega
theorem rch_fw {q : List Nat} {ws : List (List Nat)} (hw : ∀ w ∈ ws, w ≠ []) {a b : Int} (h : Rch (eB (bT q ws)) a b) : a ≤ b := by
  refine h.closed (P := fun x => a ≤ x) (Int.le_refl _) fun u v hu e => ?_
  have := edge_fw hw e
  omega
theorem rch_top {q : List Nat} {ws : List (List Nat)} (hw : ∀ w ∈ ws, w ≠ []) {a b : Int} (ha : a ≤ (q.length : Int)) (h : Rch (eB (bT q ws)) a b) : b ≤ (q.length : Int) := by
  refine h.closed (P := fun x => x ≤ (q.length : Int)) ha fun u v hu e => ?_
  have := edge_fw hw e
  omega
def sub (q : List Nat) (i j : Nat) : List Nat := (q.drop i).take (j - i)
theorem sub_len {q : List Nat} {i j : Nat} (h : i ≤ j) (h2 : j ≤ q.length) : (sub q i j).length = j - i := by
  unfold sub
  rw [List.length_take, List.length_drop]
  omega
theorem sub_occ {q w : List Nat} {i j p : Nat} (h : i ≤ j) (h2 : j ≤ q.length) : p ∈ occ (sub q i j) w ↔ i + p ∈ occ q w ∧ i + p + w.length ≤ j := by
  rw [occ_iff, occ_iff, sub_len h h2]
  have at' : ∀ k, k < w.length → p + w.length ≤ j - i → (sub q i j)[p + k]? = q[i + p + k]? := fun k hk hb => by
    unfold sub
    rw [List.getElem?_take, if_pos (by omega), List.getElem?_drop]
    congr 1
    omega
  constructor
  · rintro ⟨h3, h4⟩
    exact ⟨⟨by omega, fun k hk => by rw [← at' k hk h3]; exact h4 k hk⟩, by omega⟩
  · rintro ⟨⟨h3, h4⟩, h5⟩
    exact ⟨by omega, fun k hk => by rw [at' k hk (by omega)]; exact h4 k hk⟩
theorem sub_rch {q : List Nat} {ws : List (List Nat)} (hw : ∀ w ∈ ws, w ≠ []) {i j : Nat} (h : i ≤ j) (h2 : j ≤ q.length) {x : Int} : Rch (eB (bT (sub q i j) ws)) 0 x ↔ Rch (eB (bT q ws)) (i : Int) ((i : Int) + x) ∧ (i : Int) + x ≤ (j : Int) := by
  constructor
  · intro r
    refine ⟨?_, ?_⟩
    · have := Rch.map (E := eB (bT (sub q i j) ws)) (F := eB (bT q ws)) (f := fun y => (i : Int) + y) (fun a b e => by
        obtain ⟨w, m, p, hp, rfl, rfl⟩ := eB_mem.mp e
        exact eB_mem.mpr ⟨w, m, i + p, ((sub_occ h h2).mp hp).1, by omega, by omega⟩) r
      rwa [show (i : Int) + 0 = (i : Int) by omega] at this
    · have := rch_top hw (a := 0) (by omega) r
      rw [sub_len h h2] at this
      omega
  · rintro ⟨r, hx⟩
    have key : ∀ {y : Int}, Rch (eB (bT q ws)) (i : Int) y → y ≤ (j : Int) → Rch (eB (bT (sub q i j) ws)) 0 (y - i) := fun {y} r => by
      induction r with
      | here =>
        intro _
        rw [show (i : Int) - i = 0 by omega]
        exact .here
      | @step a b ra e ih =>
        intro hb
        have f := edge_fw hw e
        have g := rch_fw hw ra
        refine .step (ih (by omega)) ?_
        obtain ⟨w, m, p, hp, e1, e2⟩ := eB_mem.mp e
        have hp2 : i + (p - i) = p := by omega
        refine eB_mem.mpr ⟨w, m, p - i, (sub_occ h h2).mpr ⟨by rw [hp2]; exact hp, by omega⟩, by omega, by omega⟩
    have := key r hx
    rwa [show (i : Int) + x - i = x by omega] at this
/-- the last step, the first step -/
theorem rch_last {E : List (Int × Int)} {a b : Int} : Rch E a b ↔ b = a ∨ ∃ c, Rch E a c ∧ (c, b) ∈ E := by
  constructor
  · intro h
    cases h with
    | here => exact .inl rfl
    | step r e => exact .inr ⟨_, r, e⟩
  · rintro (rfl | ⟨c, r, e⟩)
    · exact .here
    · exact .step r e
theorem rch_first {E : List (Int × Int)} {a b : Int} : Rch E a b ↔ b = a ∨ ∃ c, (a, c) ∈ E ∧ Rch E c b := by
  constructor
  · intro h
    induction h with
    | here => exact .inl rfl
    | step r e ih =>
      rcases ih with rfl | ⟨c, h1, h2⟩
      · exact .inr ⟨_, e, .here⟩
      · exact .inr ⟨c, h1, .step h2 e⟩
  · rintro (rfl | ⟨c, e, r⟩)
    · exact .here
    · exact Rch.trans (.step .here e) r
/-- the places of a text that are come to from its begin -/
noncomputable def spots (ws : List (List Nat)) (t : List Nat) (e : Nat) : List Int := by
  classical
  exact ((List.range (e + 1)).filter fun (x : Nat) => decide (Rch (eB (bT t ws)) 0 (x : Int))).map fun (x : Nat) => (x : Int)
theorem spots_mem {ws : List (List Nat)} {t : List Nat} {e : Nat} {x : Int} : x ∈ spots ws t e ↔ (0 ≤ x ∧ x ≤ (e : Int)) ∧ Rch (eB (bT t ws)) 0 x := by
  classical
  unfold spots
  rw [List.mem_map]
  constructor
  · rintro ⟨y, hy, rfl⟩
    obtain ⟨h1, h2⟩ := List.mem_filter.mp hy
    have := List.mem_range.mp h1
    exact ⟨by omega, by simpa using h2⟩
  · rintro ⟨h1, h2⟩
    refine ⟨x.toNat, List.mem_filter.mpr ⟨List.mem_range.mpr (by omega), ?_⟩, by omega⟩
    rw [show ((x.toNat : Nat) : Int) = x by omega]
    simpa using h2
theorem spots_zero (ws : List (List Nat)) (t : List Nat) : spots ws t 0 = [0] := by
  classical
  unfold spots
  rw [List.range_one, List.filter_cons, if_pos (by simpa using (Rch.here : Rch (eB (bT t ws)) 0 0))]
  rfl
theorem spots_len (ws : List (List Nat)) (t : List Nat) (e : Nat) : (spots ws t e).length ≤ e + 1 := by
  classical
  unfold spots
  rw [List.length_map]
  have := List.length_filter_le (fun x : Nat => decide (Rch (eB (bT t ws)) 0 (x : Int))) (List.range (e + 1))
  rwa [List.length_range] at this
/-- whether a word ends there that begins where one is come to -/
def ends (ws : List (List Nat)) (t : List Nat) (S : List Int) (e : Nat) (w : List Nat) : Bool := decide (((e : Int) - (w.length : Int)) ∈ S) && decide ((t.take e).drop (e - w.length) = w)
theorem ends_iff {ws : List (List Nat)} {t : List Nat} {e : Nat} (he : e + 1 ≤ t.length) (h0 : ∀ w ∈ ws, w ≠ []) : (ws.any fun w => ends ws t (spots ws t e) (e + 1) w) = true ↔ Rch (eB (bT t ws)) 0 (((e + 1 : Nat) : Int)) := by
  rw [List.any_eq_true, rch_last]
  constructor
  · rintro ⟨w, hw, h⟩
    unfold ends at h
    simp only [Bool.and_eq_true, decide_eq_true_eq] at h
    obtain ⟨h1, h2⟩ := h
    obtain ⟨hb, r⟩ := spots_mem.mp h1
    refine .inr ⟨_, r, eB_mem.mpr ⟨w, hw, e + 1 - w.length, ?_, by omega, by omega⟩⟩
    have hp := List.length_pos_iff.mpr (h0 w hw)
    refine occ_iff.mpr ⟨by omega, (win_iff (by omega)).mp ?_⟩
    rw [List.drop_take] at h2
    rw [show e + 1 - (e + 1 - w.length) = w.length by omega] at h2
    exact h2
  · rintro (z | ⟨c, r, m⟩)
    · omega
    · obtain ⟨w, hw, p, hp, rfl, e2⟩ := eB_mem.mp m
      have hp0 := List.length_pos_iff.mpr (h0 w hw)
      refine ⟨w, hw, ?_⟩
      unfold ends
      simp only [Bool.and_eq_true, decide_eq_true_eq]
      have hpe : p + w.length = e + 1 := by omega
      refine ⟨spots_mem.mpr ⟨by omega, ?_⟩, ?_⟩
      · rw [show ((e + 1 : Nat) : Int) - (w.length : Int) = (p : Int) by omega]
        exact r
      · rw [List.drop_take, show e + 1 - (e + 1 - w.length) = w.length by omega, show e + 1 - w.length = p by omega]
        obtain ⟨h1, h2⟩ := occ_iff.mp hp
        exact (win_iff h1).mpr h2
theorem spots_succ {ws : List (List Nat)} {t : List Nat} {e : Nat} (he : e + 1 ≤ t.length) (h0 : ∀ w ∈ ws, w ≠ []) : spots ws t (e + 1) = if (ws.any fun w => ends ws t (spots ws t e) (e + 1) w) = true then spots ws t e ++ [((e + 1 : Nat) : Int)] else spots ws t e := by
  classical
  have key := ends_iff he h0
  have d : spots ws t (e + 1) = spots ws t e ++ if Rch (eB (bT t ws)) 0 (((e + 1 : Nat) : Int)) then [((e + 1 : Nat) : Int)] else [] := by
    unfold spots
    rw [List.range_succ (n := e + 1), List.filter_append, List.map_append]
    congr 1
    by_cases r : Rch (eB (bT t ws)) 0 (((e + 1 : Nat) : Int))
    · rw [if_pos r, List.filter_cons, if_pos (decide_eq_true r)]
      rfl
    · rw [if_neg r, List.filter_cons, if_neg (by rw [decide_eq_false r]; simp)]
      rfl
  rw [d]
  by_cases h : (ws.any fun w => ends ws t (spots ws t e) (e + 1) w) = true
  · rw [if_pos h, if_pos (key.mp h)]
  · rw [if_neg h, if_neg (fun r => h (key.mpr r)), List.append_nil]
end Lw
set_option Elab.async false
set_option linter.all false
set_option maxRecDepth 100000
set_option maxHeartbeats 400000
namespace Lw
open PySem L2 Qy
/-! ### whether letters are words joined -/
noncomputable def SpT : Fe := (fFz (fE (fAndV (fBin gInQ (fE (fBin gSubI (fP 3) (fE (fUn gLen (fP 4))))) (fP 2)) (fBin gEq (fE (fSl (fE (fSl (fP 1) fNoPart (fPart (fFz (fP 3))))) (fPart (fUn gNeg (fE (fUn gLen (fP 4))))) fNoPart)) (fP 4)))))
theorem spT_f {W : D} {T : D} {R : List OD} {e n : Int} {V : D} {x0 : Option OD} (h1 : gLen (.st V) = some (.st (.int n))) (h2 : gInQ (.st (.int (e - n))) (.ol R) = some (.st (.bl false))) :
    SpT [x0, some (.st T), some (.ol R), some (.st (.int e)), some (.st V)] = some (.st (.bl false), [x0, some (.st T), some (.ol R), some (.st (.int e)), some (.st V)]) := by
  have a := gSub_i e n
  generalize e - n = m at *
  simp only [runM, outsOf, fSeq, fRet, fAsg, gN, fFz, fPeek, fBack, fDrop, fBin, fUn, fC, fCons, fNil, fLend, fCall, fCallK, pick, List.filterMap_cons, List.filterMap_nil, putBack, fIfS, fB, fNot, fAnd, fOr, fAndV, fOrV, fNext, fIf, fX, fLst, fTup, fMov, fPar, gs2, gs3, gT, gsCons, gsNil, fYes, gAdd_i, gLt_i, gSub_i, gDiv_i, gMod_i, gGt_i, gLe_i, gGe_i, gInt_i, gNeg_i, gAbs_i, gMax_i, gMin_i, OD.val, valL, valL_st, fItS, fFor, fLc, wipeR, fPart, fNoPart, fSl, fAppend, fExtend, fPop, fGet2, fD1, fDNew, keyD, gSetQ, gSetI, gSetD, stK_map, fItR1, fLRg, List.getElem?_cons_succ, List.getElem?_cons_zero, List.set_cons_succ, List.set_cons_zero, List.length_cons, List.length_nil, List.map_cons, List.map_nil, Option.map_some, Option.map_none, Nat.zero_add, Nat.reduceAdd, Nat.reduceLT, Nat.reduceEqDiff, and_self, big0, big1, big2, big3, big4, big5, if_true, if_false, ite_true, ite_false, Bool.not_true, Bool.not_false, Bool.true_and, Bool.false_and,SpT, h1, a, h2]
theorem spT_t {T T1 T2 : D} {R : List OD} {e n : Int} {V : D} {b : Bool} {x0 : Option OD} (h1 : gLen (.st V) = some (.st (.int n))) (h2 : gInQ (.st (.int (e - n))) (.ol R) = some (.st (.bl true))) (h3 : gSl (.st T) none (some e) = some (.st T1)) (h4 : gSl (.st T1) (some (-n)) none = some (.st T2)) (h5 : gEq (.st T2) (.st V) = some (.st (.bl b))) :
    SpT [x0, some (.st T), some (.ol R), some (.st (.int e)), some (.st V)] = some (.st (.bl b), [x0, some (.st T), some (.ol R), some (.st (.int e)), some (.st V)]) := by
  have a := gSub_i e n
  have g : gNeg (.st (.int n)) = some (.st (.int (-n))) := rfl
  generalize e - n = m at *
  generalize -n = n' at *
  simp only [runM, outsOf, fSeq, fRet, fAsg, gN, fFz, fPeek, fBack, fDrop, fBin, fUn, fC, fCons, fNil, fLend, fCall, fCallK, pick, List.filterMap_cons, List.filterMap_nil, putBack, fIfS, fB, fNot, fAnd, fOr, fAndV, fOrV, fNext, fIf, fX, fLst, fTup, fMov, fPar, gs2, gs3, gT, gsCons, gsNil, fYes, gAdd_i, gLt_i, gSub_i, gDiv_i, gMod_i, gGt_i, gLe_i, gGe_i, gInt_i, gNeg_i, gAbs_i, gMax_i, gMin_i, OD.val, valL, valL_st, fItS, fFor, fLc, wipeR, fPart, fNoPart, fSl, fAppend, fExtend, fPop, fGet2, fD1, fDNew, keyD, gSetQ, gSetI, gSetD, stK_map, fItR1, fLRg, List.getElem?_cons_succ, List.getElem?_cons_zero, List.set_cons_succ, List.set_cons_zero, List.length_cons, List.length_nil, List.map_cons, List.map_nil, Option.map_some, Option.map_none, Nat.zero_add, Nat.reduceAdd, Nat.reduceLT, Nat.reduceEqDiff, and_self, big0, big1, big2, big3, big4, big5, if_true, if_false, ite_true, ite_false, Bool.not_true, Bool.not_false, Bool.true_and, Bool.false_and,SpT, h1, a, h2, h3, g, h4, h5]
theorem spT_ok {ws : List (List Nat)} {t w : List Nat} {S : List Int} {e : Nat} {x0 : Option OD} (ht : t.length ≤ 100) (he : e ≤ t.length) (h0 : w ≠ []) (hl : w.length ≤ 100) (hs : Sm t) (hw : Sm w) (hS : ∀ x ∈ S, 0 ≤ x) :
    SpT [x0, some (.st (.str (tx t))), some (iO S), some (.st (.int (e : Int))), some (.st (.str (tx w)))] = some (.st (.bl (ends ws t S e w)), [x0, some (.st (.str (tx t))), some (iO S), some (.st (.int (e : Int))), some (.st (.str (tx w)))]) := by
  have hp := List.length_pos_iff.mpr h0
  have h1 := len_tx (w := w) (by omega)
  have h2 := inQ_int (x := (e : Int) - (w.length : Int)) (seq_iO S)
  by_cases c : (e : Int) - (w.length : Int) ∈ S
  · have hb := hS _ c
    rw [decide_eq_true c] at h2
    have h3 := sl_tx (w := t) (by omega) none (some (e : Int))
    rw [cut_pre] at h3
    have tl : (t.take e).length = e := by rw [List.length_take]; omega
    have h4 := sl_tx (w := t.take e) (by omega) (some (-(w.length : Int))) none
    rw [cut_neg (t := t.take e) hp (by omega), tl] at h4
    have h5 := eqS (a := (t.take e).drop (e - w.length)) (b := w) (fun x hx => hs x (List.mem_of_mem_take (List.mem_of_mem_drop hx))) hw
    unfold ends
    rw [decide_eq_true c, Bool.true_and]
    exact spT_t h1 h2 h3 h4 h5
  · rw [decide_eq_false c] at h2
    unfold ends
    rw [decide_eq_false c, Bool.false_and]
    exact spT_f (W := .non) h1 h2
noncomputable def SpA : Fe := (fUn gAny (fE (fLc [4] (fItS (fFz (fP 0))) (gN 4) fYes SpT)))
theorem spA_ok {ws : List (List Nat)} {t : List Nat} {S : List Int} {e : Nat} (ht : t.length ≤ 100) (he : e ≤ t.length) (hws : WOk ws) (hs : Sm t) (hS : ∀ x ∈ S, 0 ≤ x) :
    SpA [some (.st (.lst (wD ws))), some (.st (.str (tx t))), some (iO S), some (.st (.int (e : Int))), none] = some (.st (.bl (ws.any fun w => ends ws t S e w)), [some (.st (.lst (wD ws))), some (.st (.str (tx t))), some (iO S), some (.st (.int (e : Int))), none]) := by
  have hn := hws.num
  have e1 := compS (enc := fun w : List Nat => D.str (tx w)) (own := [4]) (tg := gN 4) (tt := fYes) (te := SpT) (ρ0 := [some (.st (.lst (wD ws))), some (.st (.str (tx t))), some (iO S), some (.st (.int (e : Int))), none]) (r := fun w => some (.st (.bl (ends ws t S e w)))) (as := ws) (acc := []) (by
    intro w hw
    have q := spT_ok (ws := ws) (S := S) (e := e) (x0 := some (.st (.lst (wD ws)))) ht he (hws.ne w hw) (by have := hws.len w hw; omega) hs (hws.low w hw).sm hS
    unfold stepC
    generalize SpT = f at *
    generalize (iD S).map OD.st = R at *
    generalize wD ws = A at *
    simp only [runM, outsOf, fSeq, fRet, fAsg, gN, fFz, fPeek, fBack, fDrop, fBin, fUn, fC, fCons, fNil, fLend, fCall, fCallK, pick, List.filterMap_cons, List.filterMap_nil, putBack, fIfS, fB, fNot, fAnd, fOr, fAndV, fOrV, fNext, fIf, fX, fLst, fTup, fMov, fPar, gs2, gs3, gT, gsCons, gsNil, fYes, gAdd_i, gLt_i, gSub_i, gDiv_i, gMod_i, gGt_i, gLe_i, gGe_i, gInt_i, gNeg_i, gAbs_i, gMax_i, gMin_i, OD.val, valL, valL_st, fItS, fFor, fLc, wipeR, fPart, fNoPart, fSl, fAppend, fExtend, fPop, fGet2, fD1, fDNew, keyD, gSetQ, gSetI, gSetD, stK_map, fItR1, fLRg, List.getElem?_cons_succ, List.getElem?_cons_zero, List.set_cons_succ, List.set_cons_zero, List.length_cons, List.length_nil, List.map_cons, List.map_nil, Option.map_some, Option.map_none, Nat.zero_add, Nat.reduceAdd, Nat.reduceLT, Nat.reduceEqDiff, and_self, big0, big1, big2, big3, big4, big5, if_true, if_false, ite_true, ite_false, Bool.not_true, Bool.not_false, Bool.true_and, Bool.false_and,q]) (by simp [big]; omega)
  rw [List.nil_append, filterMap_some] at e1
  have e2 := any_bools (ws.map fun w => ends ws t S e w)
  rw [List.any_map, List.map_map, List.map_map] at e2
  have e2' : gAny (.ol (ws.map fun w => OD.st (.bl (ends ws t S e w)))) = some (.st (.bl (ws.any fun w => ends ws t S e w))) := e2
  have e1' : compL [4] (gN 4) fYes SpT (wD ws) [some (.st (.lst (wD ws))), some (.st (.str (tx t))), some (iO S), some (.st (.int (e : Int))), none] [] = _ := e1
  generalize (ws.map fun w => OD.st (.bl (ends ws t S e w))) = B at *
  generalize (ws.any fun w => ends ws t S e w) = b at *
  generalize (iD S).map OD.st = R at *
  generalize wD ws = A at *
  simp only [runM, outsOf, fSeq, fRet, fAsg, gN, fFz, fPeek, fBack, fDrop, fBin, fUn, fC, fCons, fNil, fLend, fCall, fCallK, pick, List.filterMap_cons, List.filterMap_nil, putBack, fIfS, fB, fNot, fAnd, fOr, fAndV, fOrV, fNext, fIf, fX, fLst, fTup, fMov, fPar, gs2, gs3, gT, gsCons, gsNil, fYes, gAdd_i, gLt_i, gSub_i, gDiv_i, gMod_i, gGt_i, gLe_i, gGe_i, gInt_i, gNeg_i, gAbs_i, gMax_i, gMin_i, OD.val, valL, valL_st, fItS, fFor, fLc, wipeR, fPart, fNoPart, fSl, fAppend, fExtend, fPop, fGet2, fD1, fDNew, keyD, gSetQ, gSetI, gSetD, stK_map, fItR1, fLRg, List.getElem?_cons_succ, List.getElem?_cons_zero, List.set_cons_succ, List.set_cons_zero, List.length_cons, List.length_nil, List.map_cons, List.map_nil, Option.map_some, Option.map_none, Nat.zero_add, Nat.reduceAdd, Nat.reduceLT, Nat.reduceEqDiff, and_self, big0, big1, big2, big3, big4, big5, if_true, if_false, ite_true, ite_false, Bool.not_true, Bool.not_false, Bool.true_and, Bool.false_and,SpA, e1', e2']
noncomputable def SpB : Fs := (fIfS (fB SpA) (fX (fAppend 2 (fFz (fP 3)))) fNext)
theorem spB_gen {f : Fe} {A T : D} {R : List OD} {e : Int} {b : Bool} (hb : R.length ≤ big) (h : f [some (.st A), some (.st T), some (.ol R), some (.st (.int e)), none] = some (.st (.bl b), [some (.st A), some (.st T), some (.ol R), some (.st (.int e)), none])) :
    (fIfS (fB f) (fX (fAppend 2 (fFz (fP 3)))) fNext) [some (.st A), some (.st T), some (.ol R), some (.st (.int e)), none] = some (.nx [some (.st A), some (.st T), some (.ol (if b = true then R ++ [.st (.int e)] else R)), some (.st (.int e)), none]) := by
  cases b with
  | true => simp only [runM, outsOf, fSeq, fRet, fAsg, gN, fFz, fPeek, fBack, fDrop, fBin, fUn, fC, fCons, fNil, fLend, fCall, fCallK, pick, List.filterMap_cons, List.filterMap_nil, putBack, fIfS, fB, fNot, fAnd, fOr, fAndV, fOrV, fNext, fIf, fX, fLst, fTup, fMov, fPar, gs2, gs3, gT, gsCons, gsNil, fYes, gAdd_i, gLt_i, gSub_i, gDiv_i, gMod_i, gGt_i, gLe_i, gGe_i, gInt_i, gNeg_i, gAbs_i, gMax_i, gMin_i, OD.val, valL, valL_st, fItS, fFor, fLc, wipeR, fPart, fNoPart, fSl, fAppend, fExtend, fPop, fGet2, fD1, fDNew, keyD, gSetQ, gSetI, gSetD, stK_map, fItR1, fLRg, List.getElem?_cons_succ, List.getElem?_cons_zero, List.set_cons_succ, List.set_cons_zero, List.length_cons, List.length_nil, List.map_cons, List.map_nil, Option.map_some, Option.map_none, Nat.zero_add, Nat.reduceAdd, Nat.reduceLT, Nat.reduceEqDiff, and_self, big0, big1, big2, big3, big4, big5, if_true, if_false, ite_true, ite_false, Bool.not_true, Bool.not_false, Bool.true_and, Bool.false_and,h, hb]
  | false =>
    simp only [runM, outsOf, fSeq, fRet, fAsg, gN, fFz, fPeek, fBack, fDrop, fBin, fUn, fC, fCons, fNil, fLend, fCall, fCallK, pick, List.filterMap_cons, List.filterMap_nil, putBack, fIfS, fB, fNot, fAnd, fOr, fAndV, fOrV, fNext, fIf, fX, fLst, fTup, fMov, fPar, gs2, gs3, gT, gsCons, gsNil, fYes, gAdd_i, gLt_i, gSub_i, gDiv_i, gMod_i, gGt_i, gLe_i, gGe_i, gInt_i, gNeg_i, gAbs_i, gMax_i, gMin_i, OD.val, valL, valL_st, fItS, fFor, fLc, wipeR, fPart, fNoPart, fSl, fAppend, fExtend, fPop, fGet2, fD1, fDNew, keyD, gSetQ, gSetI, gSetD, stK_map, fItR1, fLRg, List.getElem?_cons_succ, List.getElem?_cons_zero, List.set_cons_succ, List.set_cons_zero, List.length_cons, List.length_nil, List.map_cons, List.map_nil, Option.map_some, Option.map_none, Nat.zero_add, Nat.reduceAdd, Nat.reduceLT, Nat.reduceEqDiff, and_self, big0, big1, big2, big3, big4, big5, if_true, if_false, ite_true, ite_false, Bool.not_true, Bool.not_false, Bool.true_and, Bool.false_and,h]
    rfl
structure SplI (ws : List (List Nat)) (t : List Nat) (e : Nat) (ρ : Rho) : Prop where
  ex : ∃ x3 : Option OD, ρ = [some (.st (.lst (wD ws))), some (.st (.str (tx t))), some (iO (spots ws t e)), x3, none]
theorem sp_turn {ws : List (List Nat)} {t : List Nat} {e : Nat} (ht : t.length ≤ 100) (he : e + 1 ≤ t.length) (hws : WOk ws) (hs : Sm t) {ρ : Rho} (h : SplI ws t e ρ) : ∃ ρ', stepF (gN 3) SpB (.int (((e + 1 : Nat) : Int))) ρ = some (.nx ρ') ∧ SplI ws t (e + 1) ρ' := by
  obtain ⟨x3, rfl⟩ := h.ex
  have hl := spots_len ws t e
  have a := spA_ok (ws := ws) (t := t) (S := spots ws t e) (e := e + 1) ht he hws hs (fun x hx => (spots_mem.mp hx).1.1)
  have q := spB_gen (f := SpA) (R := (iD (spots ws t e)).map .st) (by simp [big]; omega) a
  have r : (if (ws.any fun w => ends ws t (spots ws t e) (e + 1) w) = true then (iD (spots ws t e)).map OD.st ++ [.st (.int ((e + 1 : Nat) : Int))] else (iD (spots ws t e)).map OD.st) = (iD (spots ws t (e + 1))).map OD.st := by
    rw [spots_succ he hws.ne]
    by_cases c : (ws.any fun w => ends ws t (spots ws t e) (e + 1) w) = true
    · rw [if_pos c, if_pos c]
      simp [iD]
    · rw [if_neg c, if_neg c]
  rw [r] at q
  refine ⟨[some (.st (.lst (wD ws))), some (.st (.str (tx t))), some (iO (spots ws t (e + 1))), some (.st (.int ((e + 1 : Nat) : Int))), none], ?_, ⟨some (.st (.int ((e + 1 : Nat) : Int))), rfl⟩⟩
  unfold stepF
  have tg : gN 3 (.st (.int ((e + 1 : Nat) : Int))) [some (.st (.lst (wD ws))), some (.st (.str (tx t))), some (iO (spots ws t e)), x3, none] = some [some (.st (.lst (wD ws))), some (.st (.str (tx t))), some (iO (spots ws t e)), some (.st (.int ((e + 1 : Nat) : Int))), none] := by
    generalize wD ws = A
    generalize iO (spots ws t e) = B
    simp only [runM, outsOf, fSeq, fRet, fAsg, gN, fFz, fPeek, fBack, fDrop, fBin, fUn, fC, fCons, fNil, fLend, fCall, fCallK, pick, List.filterMap_cons, List.filterMap_nil, putBack, fIfS, fB, fNot, fAnd, fOr, fAndV, fOrV, fNext, fIf, fX, fLst, fTup, fMov, fPar, gs2, gs3, gT, gsCons, gsNil, fYes, gAdd_i, gLt_i, gSub_i, gDiv_i, gMod_i, gGt_i, gLe_i, gGe_i, gInt_i, gNeg_i, gAbs_i, gMax_i, gMin_i, OD.val, valL, valL_st, fItS, fFor, fLc, wipeR, fPart, fNoPart, fSl, fAppend, fExtend, fPop, fGet2, fD1, fDNew, keyD, gSetQ, gSetI, gSetD, stK_map, fItR1, fLRg, List.getElem?_cons_succ, List.getElem?_cons_zero, List.set_cons_succ, List.set_cons_zero, List.length_cons, List.length_nil, List.map_cons, List.map_nil, Option.map_some, Option.map_none, Nat.zero_add, Nat.reduceAdd, Nat.reduceLT, Nat.reduceEqDiff, and_self, big0, big1, big2, big3, big4, big5, if_true, if_false, ite_true, ite_false, Bool.not_true, Bool.not_false, Bool.true_and, Bool.false_and,]
  rw [tg]
  exact q
theorem sp_loop {ws : List (List Nat)} {t : List Nat} (ht : t.length ≤ 100) (hws : WOk ws) (hs : Sm t) : ∀ (k e : Nat) (ρ : Rho), e + k ≤ t.length → SplI ws t e ρ → ∃ ρ', loopF (gN 3) SpB ((List.range k).map fun (i : Nat) => D.int ((e + 1 + i : Nat) : Int)) ρ = some (.nx ρ') ∧ SplI ws t (e + k) ρ'
  | 0, e, ρ, _, h => ⟨ρ, rfl, h⟩
  | k + 1, e, ρ, hk, h => by
    obtain ⟨ρ1, h1, h2⟩ := sp_turn ht (by omega) hws hs h
    obtain ⟨ρ', h3, h4⟩ := sp_loop ht hws hs k (e + 1) ρ1 (by omega) h2
    refine ⟨ρ', ?_, by rw [show e + (k + 1) = e + 1 + k by omega]; exact h4⟩
    rw [List.range_succ_eq_map, List.map_cons, List.map_map]
    rw [loopF_nx (ρ' := ρ1) h1]
    refine Eq.trans ?_ h3
    congr 1
    refine List.map_congr_left fun i _ => ?_
    show D.int ((e + 1 + (i + 1) : Nat) : Int) = _
    rw [show e + 1 + (i + 1) = e + 1 + 1 + i by omega]
theorem splits_ok {ws : List (List Nat)} {t : List Nat} (ht : t.length ≤ 100) (hws : WOk ws) (hs : Sm t) : ∃ b : Bool, m_law_splits [.st (.lst (wD ws)), .st (.str (tx t))] = some (.st (.bl b), [none, none]) ∧ (b = true ↔ Rch (eB (bT t ws)) 0 (t.length : Int)) := by
  have hlen := len_tx (w := t) (by omega)
  obtain ⟨ρ', e1, hI⟩ := sp_loop ht hws hs t.length 0 [some (.st (.lst (wD ws))), some (.st (.str (tx t))), some (iO (spots ws t 0)), none, none] (by omega) ⟨none, rfl⟩
  rw [Nat.zero_add] at hI e1
  obtain ⟨x3, rfl⟩ := hI.ex
  have e2 := inQ_int (x := (t.length : Int)) (seq_iO (spots ws t t.length))
  refine ⟨decide ((t.length : Int) ∈ spots ws t t.length), ?_, by rw [decide_eq_true_eq, spots_mem]; exact ⟨fun z => z.2, fun z => ⟨by omega, z⟩⟩⟩
  have eF : F_law_splits = (fSeq (fAsg (fLst (fCons (fC (.int 0)) fNil)) (gN 2)) (fSeq (fFor (fItR2 (fCons (fC (.int 1)) (fCons (fBin gAdd (fE (fUn gLen (fP 1))) (fE (fC (.int 1)))) fNil))) (gN 3) SpB) (fRet (fBin gInQ (fE (fUn gLen (fP 1))) (fP 2))))) := rfl
  have e0 : rho0 N_law_splits [.st (.lst (wD ws)), .st (.str (tx t))] = [some (.st (.lst (wD ws))), some (.st (.str (tx t))), none, none, none] := rfl
  have s0 : spots ws t 0 = [0] := spots_zero ws t
  rw [s0] at e1
  have er : rngD 1 (((t.length : Int) + 1 - 1).toNat) = (List.range t.length).map fun (i : Nat) => D.int ((1 + i : Nat) : Int) := by
    rw [show ((t.length : Int) + 1 - 1).toNat = t.length by omega]
    unfold rngD
    refine List.map_congr_left fun i _ => ?_
    rw [show ((1 + i : Nat) : Int) = 1 + (i : Int) by omega]
  have c1 : (-(2 ^ 62) ≤ (1 : Int) ∧ (1 : Int) < 2 ^ 62 ∧ -(2 ^ 62) ≤ (t.length : Int) + 1 ∧ (t.length : Int) + 1 < 2 ^ 62) := by omega
  have a := gAdd_i (t.length : Int) 1
  have b1 : 1 ≤ big := by decide
  have e1' : loopF (gN 3) SpB ((List.range t.length).map fun (i : Nat) => D.int ((1 + i : Nat) : Int)) [some (.st (.lst (wD ws))), some (.st (.str (tx t))), some (.ol [.st (.int 0)]), none, none] = some (.nx [some (.st (.lst (wD ws))), some (.st (.str (tx t))), some (iO (spots ws t t.length)), x3, none]) := e1
  rw [← er] at e1'
  rw [m_law_splits, runM, eF]
  unfold iO at e1' e2
  generalize (iD (spots ws t t.length)).map OD.st = R at *
  generalize wD ws = A at *
  generalize tx t = T at *
  generalize (t.length : Int) = N at *
  generalize N + 1 = M at *
  generalize decide (N ∈ spots ws t t.length) = bb at *
  simp only [runM, outsOf, fSeq, fRet, fAsg, gN, fFz, fPeek, fBack, fDrop, fBin, fUn, fC, fCons, fNil, fLend, fCall, fCallK, pick, List.filterMap_cons, List.filterMap_nil, putBack, fIfS, fB, fNot, fAnd, fOr, fAndV, fOrV, fNext, fIf, fX, fLst, fTup, fMov, fPar, gs2, gs3, gT, gsCons, gsNil, fYes, gAdd_i, gLt_i, gSub_i, gDiv_i, gMod_i, gGt_i, gLe_i, gGe_i, gInt_i, gNeg_i, gAbs_i, gMax_i, gMin_i, OD.val, valL, valL_st, fItS, fFor, fLc, wipeR, fPart, fNoPart, fSl, fAppend, fExtend, fPop, fGet2, fD1, fDNew, keyD, gSetQ, gSetI, gSetD, stK_map, fItR1, fLRg, List.getElem?_cons_succ, List.getElem?_cons_zero, List.set_cons_succ, List.set_cons_zero, List.length_cons, List.length_nil, List.map_cons, List.map_nil, Option.map_some, Option.map_none, Nat.zero_add, Nat.reduceAdd, Nat.reduceLT, Nat.reduceEqDiff, and_self, big0, big1, big2, big3, big4, big5, if_true, if_false, ite_true, ite_false, Bool.not_true, Bool.not_false, Bool.true_and, Bool.false_and,fItR2, e0, b1, hlen, a, c1, e1', e2]
end Lw
set_option Elab.async false
set_option linter.all false
set_option maxRecDepth 100000
set_option maxHeartbeats 400000
namespace Lw
open PySem L2 Qy
/-! ### goals and starts -/
noncomputable def rd (E : List (Int × Int)) (a b : Int) : Bool := by
  classical
  exact decide (Rch E a b)
theorem rd_iff {E : List (Int × Int)} {a b : Int} : rd E a b = true ↔ Rch E a b := by
  unfold rd
  simp
theorem split_part {ws : List (List Nat)} {q : List Nat} (hq : QOk q) (hws : WOk ws) {i j : Nat} (h : i ≤ j) (h2 : j ≤ q.length) : m_law_splits [.st (.lst (wD ws)), .st (.str (tx (sub q i j)))] = some (.st (.bl (rd (eB (bT q ws)) (i : Int) (j : Int))), [none, none]) := by
  have hql := hq.len
  have hl := sub_len h h2
  obtain ⟨b, e, hb⟩ := splits_ok (ws := ws) (t := sub q i j) (by omega) hws (fun c hc => hq.low.sm c (List.mem_of_mem_drop (List.mem_of_mem_take hc)))
  rw [e]
  have key : b = true ↔ rd (eB (bT q ws)) (i : Int) (j : Int) = true := by
    rw [hb, hl, sub_rch hws.ne h h2, rd_iff, show (i : Int) + ((j - i : Nat) : Int) = (j : Int) by omega]
    exact ⟨fun z => z.1, fun z => ⟨z, by omega⟩⟩
  have : b = rd (eB (bT q ws)) (i : Int) (j : Int) := by
    cases b <;> cases hr : rd (eB (bT q ws)) (i : Int) (j : Int) <;> simp_all
  rw [this]
theorem sl_part {q : List Nat} {i j : Nat} (hq : q.length ≤ 1000) (h : i ≤ j) (h2 : j ≤ q.length) : gSl (.st (.str (tx q))) (some (i : Int)) (some (j : Int)) = some (.st (.str (tx (sub q i j)))) := by
  have := sl_tx hq (some (i : Int)) (some ((i : Int) + ((j - i : Nat) : Int)))
  rw [cut_in (by omega)] at this
  rw [show (j : Int) = (i : Int) + ((j - i : Nat) : Int) by omega]
  exact this
noncomputable def GoT : Ft := (fB (fCall m_law_splits (fCons (fFz (fP 0)) (fCons (fFz (fE (fSl (fP 1) (fPart (fFz (fP 2))) (fPart (fFz (fP 3)))))) fNil)) [none, none]))
theorem goT_gen {A Q T : D} {i j : Int} {b : Bool} (h1 : gSl (.st Q) (some i) (some j) = some (.st T)) (h2 : m_law_splits [.st A, .st T] = some (.st (.bl b), [none, none])) :
    stepC [3] (gN 3) GoT (fFz (fP 3)) (.int j) [some (.st A), some (.st Q), some (.st (.int i)), none] = some (if b = true then some (.st (.int j)) else none, [some (.st A), some (.st Q), some (.st (.int i)), none]) := by
  unfold stepC GoT
  cases b with
  | true => simp only [runM, outsOf, fSeq, fRet, fAsg, gN, fFz, fPeek, fBack, fDrop, fBin, fUn, fC, fCons, fNil, fLend, fCall, fCallK, pick, List.filterMap_cons, List.filterMap_nil, putBack, fIfS, fB, fNot, fAnd, fOr, fAndV, fOrV, fNext, fIf, fX, fLst, fTup, fMov, fPar, gs2, gs3, gT, gsCons, gsNil, fYes, gAdd_i, gLt_i, gSub_i, gDiv_i, gMod_i, gGt_i, gLe_i, gGe_i, gInt_i, gNeg_i, gAbs_i, gMax_i, gMin_i, OD.val, valL, valL_st, fItS, fFor, fLc, wipeR, fPart, fNoPart, fSl, fAppend, fExtend, fPop, fGet2, fD1, fDNew, keyD, gSetQ, gSetI, gSetD, stK_map, fItR1, fLRg, List.getElem?_cons_succ, List.getElem?_cons_zero, List.set_cons_succ, List.set_cons_zero, List.length_cons, List.length_nil, List.map_cons, List.map_nil, Option.map_some, Option.map_none, Nat.zero_add, Nat.reduceAdd, Nat.reduceLT, Nat.reduceEqDiff, and_self, big0, big1, big2, big3, big4, big5, if_true, if_false, ite_true, ite_false, Bool.not_true, Bool.not_false, Bool.true_and, Bool.false_and,h1, h2]
  | false =>
    simp only [runM, outsOf, fSeq, fRet, fAsg, gN, fFz, fPeek, fBack, fDrop, fBin, fUn, fC, fCons, fNil, fLend, fCall, fCallK, pick, List.filterMap_cons, List.filterMap_nil, putBack, fIfS, fB, fNot, fAnd, fOr, fAndV, fOrV, fNext, fIf, fX, fLst, fTup, fMov, fPar, gs2, gs3, gT, gsCons, gsNil, fYes, gAdd_i, gLt_i, gSub_i, gDiv_i, gMod_i, gGt_i, gLe_i, gGe_i, gInt_i, gNeg_i, gAbs_i, gMax_i, gMin_i, OD.val, valL, valL_st, fItS, fFor, fLc, wipeR, fPart, fNoPart, fSl, fAppend, fExtend, fPop, fGet2, fD1, fDNew, keyD, gSetQ, gSetI, gSetD, stK_map, fItR1, fLRg, List.getElem?_cons_succ, List.getElem?_cons_zero, List.set_cons_succ, List.set_cons_zero, List.length_cons, List.length_nil, List.map_cons, List.map_nil, Option.map_some, Option.map_none, Nat.zero_add, Nat.reduceAdd, Nat.reduceLT, Nat.reduceEqDiff, and_self, big0, big1, big2, big3, big4, big5, if_true, if_false, ite_true, ite_false, Bool.not_true, Bool.not_false, Bool.true_and, Bool.false_and,h1, h2]
    rfl
theorem goals_ok {ws : List (List Nat)} {q : List Nat} (hq : QOk q) (hws : WOk ws) {i : Nat} (hi : i ≤ q.length) : m_law_goals [.st (.lst (wD ws)), .st (.str (tx q)), .st (.int (i : Int))] = some (iO (rl (eB (bT q ws)) (q.length + 1) (i : Int)), [none, none, none]) := by
  have hql := hq.len
  have hlen := len_q hq.len
  have e1 := compS (enc := fun x : Nat => D.int ((i : Int) + (x : Int))) (own := [3]) (tg := gN 3) (tt := GoT) (te := fFz (fP 3)) (ρ0 := [some (.st (.lst (wD ws))), some (.st (.str (tx q))), some (.st (.int (i : Int))), none]) (r := fun x => if rd (eB (bT q ws)) (i : Int) ((i : Int) + (x : Int)) = true then some (.st (.int ((i : Int) + (x : Int)))) else none) (as := List.range (q.length + 1 - i)) (acc := []) (by
    intro x hx
    have hxr := List.mem_range.mp hx
    have c := sl_part (q := q) (i := i) (j := i + x) (by omega) (by omega) (by omega)
    have s := split_part hq hws (i := i) (j := i + x) (by omega) (by omega)
    rw [show ((i + x : Nat) : Int) = (i : Int) + (x : Int) by omega] at c s
    exact goT_gen c s) (by simp [big]; omega)
  rw [List.nil_append, filterMap_if] at e1
  have er : (List.range (q.length + 1 - i)).map (fun x : Nat => D.int ((i : Int) + (x : Int))) = rngD (i : Int) ((q.length : Int) + 1 - (i : Int)).toNat := by
    rw [show ((q.length : Int) + 1 - (i : Int)).toNat = q.length + 1 - i by omega]
    rfl
  rw [er] at e1
  have el : ((List.range (q.length + 1 - i)).filter fun x : Nat => rd (eB (bT q ws)) (i : Int) ((i : Int) + (x : Int))).map (fun x : Nat => OD.st (.int ((i : Int) + (x : Int)))) = (iD (rl (eB (bT q ws)) (q.length + 1) (i : Int))).map .st := by
    have : ((List.range (q.length + 1 - i)).filter fun x : Nat => rd (eB (bT q ws)) (i : Int) ((i : Int) + (x : Int))).map (fun x : Nat => (i : Int) + (x : Int)) = rl (eB (bT q ws)) (q.length + 1) (i : Int) := by
      refine lt_same ?_ (rl_lt _ _ _) fun y => ?_
      · rw [List.pairwise_map]
        exact (List.pairwise_lt_range.filter _).imp fun h => by omega
      · rw [List.mem_map, rl_mem]
        constructor
        · rintro ⟨x, hx, rfl⟩
          obtain ⟨h1, h2⟩ := List.mem_filter.mp hx
          have := List.mem_range.mp h1
          exact ⟨by omega, rd_iff.mp h2⟩
        · rintro ⟨h1, h2⟩
          have := rch_fw hws.ne h2
          refine ⟨(y - i).toNat, List.mem_filter.mpr ⟨List.mem_range.mpr (by omega), rd_iff.mpr ?_⟩, by omega⟩
          rw [show (i : Int) + (((y - (i : Int)).toNat : Nat) : Int) = y by omega]
          exact h2
    rw [← this]
    simp only [iD, List.map_map]
    rfl
  rw [el] at e1
  have e0 : rho0 N_law_goals [.st (.lst (wD ws)), .st (.str (tx q)), .st (.int (i : Int))] = [some (.st (.lst (wD ws))), some (.st (.str (tx q))), some (.st (.int (i : Int))), none] := rfl
  have eF : F_law_goals = (fRet (fLc [3] (fItR2 (fCons (fFz (fP 2)) (fCons (fBin gAdd (fE (fUn gLen (fP 1))) (fE (fC (.int 1)))) fNil))) (gN 3) GoT (fFz (fP 3)))) := rfl
  have c1 : (-(2 ^ 62) ≤ (i : Int) ∧ (i : Int) < 2 ^ 62 ∧ -(2 ^ 62) ≤ (q.length : Int) + 1 ∧ (q.length : Int) + 1 < 2 ^ 62) := by omega
  have a := gAdd_i (q.length : Int) 1
  rw [m_law_goals, runM, eF]
  unfold iO
  generalize (iD (rl (eB (bT q ws)) (q.length + 1) (i : Int))).map OD.st = R at *
  generalize wD ws = A at *
  generalize tx q = T at *
  generalize (q.length : Int) + 1 = M at *
  generalize (q.length : Int) = N at *
  generalize (i : Int) = I at *
  simp only [runM, outsOf, fSeq, fRet, fAsg, gN, fFz, fPeek, fBack, fDrop, fBin, fUn, fC, fCons, fNil, fLend, fCall, fCallK, pick, List.filterMap_cons, List.filterMap_nil, putBack, fIfS, fB, fNot, fAnd, fOr, fAndV, fOrV, fNext, fIf, fX, fLst, fTup, fMov, fPar, gs2, gs3, gT, gsCons, gsNil, fYes, gAdd_i, gLt_i, gSub_i, gDiv_i, gMod_i, gGt_i, gLe_i, gGe_i, gInt_i, gNeg_i, gAbs_i, gMax_i, gMin_i, OD.val, valL, valL_st, fItS, fFor, fLc, wipeR, fPart, fNoPart, fSl, fAppend, fExtend, fPop, fGet2, fD1, fDNew, keyD, gSetQ, gSetI, gSetD, stK_map, fItR1, fLRg, List.getElem?_cons_succ, List.getElem?_cons_zero, List.set_cons_succ, List.set_cons_zero, List.length_cons, List.length_nil, List.map_cons, List.map_nil, Option.map_some, Option.map_none, Nat.zero_add, Nat.reduceAdd, Nat.reduceLT, Nat.reduceEqDiff, and_self, big0, big1, big2, big3, big4, big5, if_true, if_false, ite_true, ite_false, Bool.not_true, Bool.not_false, Bool.true_and, Bool.false_and,fItR2, e0, hlen, a, c1, e1]
noncomputable def StT : Ft := (fB (fCall m_law_splits (fCons (fFz (fP 0)) (fCons (fFz (fE (fSl (fP 1) (fPart (fFz (fP 3))) (fPart (fFz (fP 2)))))) fNil)) [none, none]))
theorem stT_gen {A Q T : D} {i j : Int} {b : Bool} (h1 : gSl (.st Q) (some j) (some i) = some (.st T)) (h2 : m_law_splits [.st A, .st T] = some (.st (.bl b), [none, none])) :
    stepC [3] (gN 3) StT (fFz (fP 3)) (.int j) [some (.st A), some (.st Q), some (.st (.int i)), none] = some (if b = true then some (.st (.int j)) else none, [some (.st A), some (.st Q), some (.st (.int i)), none]) := by
  unfold stepC StT
  cases b with
  | true => simp only [runM, outsOf, fSeq, fRet, fAsg, gN, fFz, fPeek, fBack, fDrop, fBin, fUn, fC, fCons, fNil, fLend, fCall, fCallK, pick, List.filterMap_cons, List.filterMap_nil, putBack, fIfS, fB, fNot, fAnd, fOr, fAndV, fOrV, fNext, fIf, fX, fLst, fTup, fMov, fPar, gs2, gs3, gT, gsCons, gsNil, fYes, gAdd_i, gLt_i, gSub_i, gDiv_i, gMod_i, gGt_i, gLe_i, gGe_i, gInt_i, gNeg_i, gAbs_i, gMax_i, gMin_i, OD.val, valL, valL_st, fItS, fFor, fLc, wipeR, fPart, fNoPart, fSl, fAppend, fExtend, fPop, fGet2, fD1, fDNew, keyD, gSetQ, gSetI, gSetD, stK_map, fItR1, fLRg, List.getElem?_cons_succ, List.getElem?_cons_zero, List.set_cons_succ, List.set_cons_zero, List.length_cons, List.length_nil, List.map_cons, List.map_nil, Option.map_some, Option.map_none, Nat.zero_add, Nat.reduceAdd, Nat.reduceLT, Nat.reduceEqDiff, and_self, big0, big1, big2, big3, big4, big5, if_true, if_false, ite_true, ite_false, Bool.not_true, Bool.not_false, Bool.true_and, Bool.false_and,h1, h2]
  | false =>
    simp only [runM, outsOf, fSeq, fRet, fAsg, gN, fFz, fPeek, fBack, fDrop, fBin, fUn, fC, fCons, fNil, fLend, fCall, fCallK, pick, List.filterMap_cons, List.filterMap_nil, putBack, fIfS, fB, fNot, fAnd, fOr, fAndV, fOrV, fNext, fIf, fX, fLst, fTup, fMov, fPar, gs2, gs3, gT, gsCons, gsNil, fYes, gAdd_i, gLt_i, gSub_i, gDiv_i, gMod_i, gGt_i, gLe_i, gGe_i, gInt_i, gNeg_i, gAbs_i, gMax_i, gMin_i, OD.val, valL, valL_st, fItS, fFor, fLc, wipeR, fPart, fNoPart, fSl, fAppend, fExtend, fPop, fGet2, fD1, fDNew, keyD, gSetQ, gSetI, gSetD, stK_map, fItR1, fLRg, List.getElem?_cons_succ, List.getElem?_cons_zero, List.set_cons_succ, List.set_cons_zero, List.length_cons, List.length_nil, List.map_cons, List.map_nil, Option.map_some, Option.map_none, Nat.zero_add, Nat.reduceAdd, Nat.reduceLT, Nat.reduceEqDiff, and_self, big0, big1, big2, big3, big4, big5, if_true, if_false, ite_true, ite_false, Bool.not_true, Bool.not_false, Bool.true_and, Bool.false_and,h1, h2]
    rfl
theorem swap_rch {E : List (Int × Int)} {a b : Int} : Rch (swapE E) a b ↔ Rch E b a := by
  have one : ∀ {E : List (Int × Int)} {a b : Int}, Rch E a b → Rch (swapE E) b a := fun {E a b} h => by
    induction h with
    | here => exact .here
    | step _ e ih => exact Rch.trans (.step .here (swap_mem.mpr e)) ih
  constructor
  · intro h
    have h2 := one h
    refine h2.mono fun p hp => ?_
    obtain ⟨x, y⟩ := p
    exact swap_mem.mp (swap_mem.mp hp)
  · exact one
theorem starts_gen {A T : D} {I M : Int} {R : List OD} (a : gAdd (.st (.int I)) (.st (.int 1)) = some (.st (.int M))) (c1 : -(2 ^ 62) ≤ M ∧ M < 2 ^ 62)
    (e1 : compL [3] (gN 3) StT (fFz (fP 3)) (rngD 0 M.toNat) [some (.st A), some (.st T), some (.st (.int I)), none] [] = some (R, [some (.st A), some (.st T), some (.st (.int I)), none])) : m_law_starts [.st A, .st T, .st (.int I)] = some (.ol R, [none, none, none]) := by
  have e0 : rho0 N_law_starts [.st A, .st T, .st (.int I)] = [some (.st A), some (.st T), some (.st (.int I)), none] := rfl
  have eF : F_law_starts = (fRet (fLc [3] (fItR1 (fCons (fBin gAdd (fP 2) (fE (fC (.int 1)))) fNil)) (gN 3) StT (fFz (fP 3)))) := rfl
  rw [m_law_starts, runM, eF]
  simp only [runM, outsOf, fSeq, fRet, fAsg, gN, fFz, fPeek, fBack, fDrop, fBin, fUn, fC, fCons, fNil, fLend, fCall, fCallK, pick, List.filterMap_cons, List.filterMap_nil, putBack, fIfS, fB, fNot, fAnd, fOr, fAndV, fOrV, fNext, fIf, fX, fLst, fTup, fMov, fPar, gs2, gs3, gT, gsCons, gsNil, fYes, gAdd_i, gLt_i, gSub_i, gDiv_i, gMod_i, gGt_i, gLe_i, gGe_i, gInt_i, gNeg_i, gAbs_i, gMax_i, gMin_i, OD.val, valL, valL_st, fItS, fFor, fLc, wipeR, fPart, fNoPart, fSl, fAppend, fExtend, fPop, fGet2, fD1, fDNew, keyD, gSetQ, gSetI, gSetD, stK_map, fItR1, fLRg, List.getElem?_cons_succ, List.getElem?_cons_zero, List.set_cons_succ, List.set_cons_zero, List.length_cons, List.length_nil, List.map_cons, List.map_nil, Option.map_some, Option.map_none, Nat.zero_add, Nat.reduceAdd, Nat.reduceLT, Nat.reduceEqDiff, and_self, big0, big1, big2, big3, big4, big5, if_true, if_false, ite_true, ite_false, Bool.not_true, Bool.not_false, Bool.true_and, Bool.false_and,e0, a, c1, e1]
theorem starts_ok {ws : List (List Nat)} {q : List Nat} (hq : QOk q) (hws : WOk ws) {i : Nat} (hi : i ≤ q.length) : m_law_starts [.st (.lst (wD ws)), .st (.str (tx q)), .st (.int (i : Int))] = some (iO (rl (swapE (eB (bT q ws))) (q.length + 1) (i : Int)), [none, none, none]) := by
  have hql := hq.len
  have e1 := compS (enc := fun x : Nat => D.int (x : Int)) (own := [3]) (tg := gN 3) (tt := StT) (te := fFz (fP 3)) (ρ0 := [some (.st (.lst (wD ws))), some (.st (.str (tx q))), some (.st (.int (i : Int))), none]) (r := fun x => if rd (eB (bT q ws)) (x : Int) (i : Int) = true then some (.st (.int (x : Int))) else none) (as := List.range (i + 1)) (acc := []) (by
    intro x hx
    have hxr := List.mem_range.mp hx
    exact stT_gen (sl_part (q := q) (i := x) (j := i) (by omega) (by omega) (by omega)) (split_part hq hws (i := x) (j := i) (by omega) (by omega))) (by simp [big]; omega)
  rw [List.nil_append, filterMap_if] at e1
  have er : (List.range (i + 1)).map (fun x : Nat => D.int (x : Int)) = rngD 0 ((i : Int) + 1).toNat := by
    rw [show ((i : Int) + 1).toNat = i + 1 by omega, rng_eq]
  rw [er] at e1
  have el : ((List.range (i + 1)).filter fun x : Nat => rd (eB (bT q ws)) (x : Int) (i : Int)).map (fun x : Nat => OD.st (.int (x : Int))) = (iD (rl (swapE (eB (bT q ws))) (q.length + 1) (i : Int))).map .st := by
    have : ((List.range (i + 1)).filter fun x : Nat => rd (eB (bT q ws)) (x : Int) (i : Int)).map (fun x : Nat => (x : Int)) = rl (swapE (eB (bT q ws))) (q.length + 1) (i : Int) := by
      refine lt_same ?_ (rl_lt _ _ _) fun y => ?_
      · rw [List.pairwise_map]
        exact (List.pairwise_lt_range.filter _).imp fun h => by omega
      · rw [List.mem_map, rl_mem, swap_rch]
        constructor
        · rintro ⟨x, hx, rfl⟩
          obtain ⟨h1, h2⟩ := List.mem_filter.mp hx
          have := List.mem_range.mp h1
          exact ⟨by omega, rd_iff.mp h2⟩
        · rintro ⟨h1, h2⟩
          have := rch_fw hws.ne h2
          refine ⟨y.toNat, List.mem_filter.mpr ⟨List.mem_range.mpr (by omega), rd_iff.mpr ?_⟩, by omega⟩
          rw [show ((y.toNat : Nat) : Int) = y by omega]
          exact h2
    rw [← this]
    simp only [iD, List.map_map]
    rfl
  rw [el] at e1
  exact starts_gen (gAdd_i (i : Int) 1) (by omega) e1
end Lw
set_option Elab.async false
set_option linter.all false
set_option maxRecDepth 100000
set_option maxHeartbeats 400000
namespace Lw
open PySem L2 Qy
theorem bridges_at_ok {q : List Nat} {ws : List (List Nat)} {i : Int} (hq : QOk q) (hw : WOk ws) (h0 : 0 ≤ i) (h1 : i ≤ (q.length : Int)) : m_bridges_at [.st (lotD ws), .st (.str (tx q)), .st (.int i)] = some (.ol ((tD ((bT q ws).filter fun t => decide (i ∈ [t.1, t.2.1]))).map .st), [none, none, none]) := by
  have e1 := want_question_ok hq.low hq.ne hq.len
  have e2 := want_place_ok hq.len h0 h1
  have e4 := bridges_of_ok hq hw
  have hL := bT_ok (q := q) hw.ne hq.len hw.num
  have hBl := hL.len
  have e6 := compL_pure (own := [3]) (tg := gN 3) (tt := (fB (fBin gInQ (fP 2) (fE (fSl (fP 3) fNoPart (fPart (fC (.int 2)))))))) (te := (fFz (fP 3))) (ρ0 := [some (.st (lotD ws)), some (.st (.str (tx q))), some (.st (.int i)), none])
    (p := fun d => match d with | .tup [.int a, .int b, .str _] => decide (i ∈ [a, b]) | _ => false) (g := fun d => .st d) (ds := tD (bT q ws)) (acc := []) (by
      intro d hd
      obtain ⟨t, ht, rfl⟩ := List.mem_map.mp hd
      have s1 : gSl (.st (.tup [.int t.1, .int t.2.1, .str t.2.2])) none (some 2) = some (.st (.tup (iD [t.1, t.2.1]))) := rfl
      have i1 : gInQ (.st (.int i)) (.st (.tup [.int t.1, .int t.2.1])) = _ := inQ_int (x := i) (seq_iT [t.1, t.2.1])
      refine ⟨[some (.st (lotD ws)), some (.st (.str (tx q))), some (.st (.int i)), some (.st (tupT t))], [some (.st (lotD ws)), some (.st (.str (tx q))), some (.st (.int i)), some (.st (tupT t))], by simp [gN], ?_, (fun _ => by simp [wipeR]), fun _ => ⟨[some (.st (lotD ws)), some (.st (.str (tx q))), some (.st (.int i)), some (.st (tupT t))], ?_, by simp [wipeR]⟩⟩
      · simp only [runM, outsOf, fSeq, fRet, fAsg, gN, fFz, fPeek, fBack, fDrop, fBin, fUn, fC, fCons, fNil, fLend, fCall, fCallK, pick, List.filterMap_cons, List.filterMap_nil, putBack, fIfS, fB, fNot, fAnd, fOr, fAndV, fOrV, fNext, fIf, fX, fLst, fTup, fMov, fPar, gs2, gs3, gT, gsCons, gsNil, fYes, gAdd_i, gLt_i, gSub_i, gDiv_i, gMod_i, gGt_i, gLe_i, gGe_i, gInt_i, gNeg_i, gAbs_i, gMax_i, gMin_i, OD.val, valL, valL_st, fItS, fFor, fLc, wipeR, fPart, fNoPart, fSl, fAppend, fExtend, fPop, fGet2, fD1, fDNew, keyD, gSetQ, gSetI, gSetD, stK_map, fItR1, fLRg, List.getElem?_cons_succ, List.getElem?_cons_zero, List.set_cons_succ, List.set_cons_zero, List.length_cons, List.length_nil, List.map_cons, List.map_nil, Option.map_some, Option.map_none, Nat.zero_add, Nat.reduceAdd, Nat.reduceLT, Nat.reduceEqDiff, and_self, big0, big1, big2, big3, big4, big5, if_true, if_false, ite_true, ite_false, Bool.not_true, Bool.not_false, Bool.true_and, Bool.false_and,s1, i1]
      · simp only [runM, outsOf, fSeq, fRet, fAsg, gN, fFz, fPeek, fBack, fDrop, fBin, fUn, fC, fCons, fNil, fLend, fCall, fCallK, pick, List.filterMap_cons, List.filterMap_nil, putBack, fIfS, fB, fNot, fAnd, fOr, fAndV, fOrV, fNext, fIf, fX, fLst, fTup, fMov, fPar, gs2, gs3, gT, gsCons, gsNil, fYes, gAdd_i, gLt_i, gSub_i, gDiv_i, gMod_i, gGt_i, gLe_i, gGe_i, gInt_i, gNeg_i, gAbs_i, gMax_i, gMin_i, OD.val, valL, valL_st, fItS, fFor, fLc, wipeR, fPart, fNoPart, fSl, fAppend, fExtend, fPop, fGet2, fD1, fDNew, keyD, gSetQ, gSetI, gSetD, stK_map, fItR1, fLRg, List.getElem?_cons_succ, List.getElem?_cons_zero, List.set_cons_succ, List.set_cons_zero, List.length_cons, List.length_nil, List.map_cons, List.map_nil, Option.map_some, Option.map_none, Nat.zero_add, Nat.reduceAdd, Nat.reduceLT, Nat.reduceEqDiff, and_self, big0, big1, big2, big3, big4, big5, if_true, if_false, ite_true, ite_false, Bool.not_true, Bool.not_false, Bool.true_and, Bool.false_and]) (by simp [big]; omega)
  have e6' : ((tD (bT q ws)).filter fun d => match d with | .tup [.int a, .int b, .str _] => decide (i ∈ [a, b]) | _ => false).map OD.st = (tD ((bT q ws).filter fun t => decide (i ∈ [t.1, t.2.1]))).map .st := by
    rw [List.filter_map]
    rfl
  rw [List.nil_append, e6'] at e6
  have e0 : rho0 N_bridges_at [.st (lotD ws), .st (.str (tx q)), .st (.int i)] = [some (.st (lotD ws)), some (.st (.str (tx q))), some (.st (.int i)), none] := rfl
  simp only [runM, outsOf, fSeq, fRet, fAsg, gN, fFz, fPeek, fBack, fDrop, fBin, fUn, fC, fCons, fNil, fLend, fCall, fCallK, pick, List.filterMap_cons, List.filterMap_nil, putBack, fIfS, fB, fNot, fAnd, fOr, fAndV, fOrV, fNext, fIf, fX, fLst, fTup, fMov, fPar, gs2, gs3, gT, gsCons, gsNil, fYes, gAdd_i, gLt_i, gSub_i, gDiv_i, gMod_i, gGt_i, gLe_i, gGe_i, gInt_i, gNeg_i, gAbs_i, gMax_i, gMin_i, OD.val, valL, valL_st, fItS, fFor, fLc, wipeR, fPart, fNoPart, fSl, fAppend, fExtend, fPop, fGet2, fD1, fDNew, keyD, gSetQ, gSetI, gSetD, stK_map, fItR1, fLRg, List.getElem?_cons_succ, List.getElem?_cons_zero, List.set_cons_succ, List.set_cons_zero, List.length_cons, List.length_nil, List.map_cons, List.map_nil, Option.map_some, Option.map_none, Nat.zero_add, Nat.reduceAdd, Nat.reduceLT, Nat.reduceEqDiff, and_self, big0, big1, big2, big3, big4, big5, if_true, if_false, ite_true, ite_false, Bool.not_true, Bool.not_false, Bool.true_and, Bool.false_and,m_bridges_at, F_bridges_at, e0, e1, e2, e4, e6]
noncomputable def PrS1 : Fs := (fPar (fCons (fCall m_law_goals (fCons (fFz (fP 1)) (fCons (fFz (fP 2)) (fCons (fFz (fP 3)) fNil))) [none, none, none]) (fCons (fCall m_law_starts (fCons (fFz (fP 1)) (fCons (fFz (fP 2)) (fCons (fFz (fP 3)) fNil))) [none, none, none]) fNil)) (gs2 4 5))
noncomputable def PrTo (m : Mir) : Fs := (fAsg (fLst (fCons (fCall m (fCons (fFz (fP 0)) (fCons (fFz (fP 2)) (fCons (fFz (fP 3)) fNil))) [none, none, none]) (fCons (fCallK m [2, 1, 0] (fCons (fFz (fP 3)) (fCons (fFz (fP 2)) (fCons (fFz (fP 0)) fNil)))) fNil))) (gN 6))
noncomputable def PrNe (k : Nat) : Fs := (fIfS (fOr (fB (fBin gNe (fP 6) (fE (fLst (fCons (fFz (fP k)) (fCons (fFz (fP k)) fNil)))))) (fNot (fB (fIsiAt 6 "list" (fC (.int 0)))))) (fRet (fC (.bl false))) fNext)
noncomputable def PrAp : Fs := (fX (fAppAt 6 (fC (.int 0)) (fC (.int 99))))
noncomputable def PrCl (k : Int) : Fs := (fX (fClrAt 6 (fC (.int k))))
noncomputable def PrOr : Fs := (fIfS (fOr (fB (fBin gNe (fE (fCall m_forth_from (fCons (fFz (fP 0)) (fCons (fFz (fP 2)) (fCons (fFz (fP 3)) fNil))) [none, none, none])) (fP 4))) (fB (fBin gNe (fE (fCall m_forth_to (fCons (fFz (fP 0)) (fCons (fFz (fP 2)) (fCons (fFz (fP 3)) fNil))) [none, none, none])) (fP 5)))) (fRet (fC (.bl false))) fNext)
noncomputable def PrJo : Fs := (fAsg (fCall m_joined_to (fCons (fFz (fP 0)) (fCons (fFz (fP 2)) (fCons (fFz (fP 3)) fNil))) [none, none, none]) (gN 7))
noncomputable def PrAl : Fs := (fIfS (fNot (fB (fUn gAll (fE (fLc [8] (fItS (fFz (fE (fBin gAdd (fP 4) (fP 5))))) (gN 8) fYes (fBin gInQ (fP 8) (fP 7))))))) (fRet (fC (.bl false))) fNext)
noncomputable def PrLa : Fs := (fAsg (fLst (fCons (fFz (fP 3)) fNil)) (gN 9))
noncomputable def PrLB : Fs := (fIfS (fB (fBin gEq (fP 10) (fP 3))) (fAsg (fBin gAdd (fP 9) (fE (fCall m_forth_from (fCons (fFz (fP 0)) (fCons (fFz (fP 2)) (fCons (fFz (fP 11)) fNil))) [none, none, none]))) (gN 9)) fNext)
noncomputable def PrLo : Fs := (fFor (fItS (fFz (fE (fCall m_bridges_at (fCons (fFz (fP 0)) (fCons (fFz (fP 2)) (fCons (fFz (fP 3)) fNil))) [none, none, none])))) (gT 3 (gsCons (gN 10) (gsCons (gN 11) (gsCons (gN 12) gsNil)))) PrLB)
noncomputable def PrRe : Fs := (fRet (fBin gEq (fE (fUn gSortSet2 (fP 9))) (fP 4)))
section
variable {L W Q I : D} {x4 x5 x6 x7 x8 x9 x10 x11 x12 : Option OD}
theorem pr1 {g s : OD} (h1 : m_law_goals [.st W, .st Q, .st I] = some (g, [none, none, none])) (h2 : m_law_starts [.st W, .st Q, .st I] = some (s, [none, none, none])) :
    PrS1 [some (.st L), some (.st W), some (.st Q), some (.st I), x4, x5, x6, x7, x8, x9, x10, x11, x12] = some (.nx [some (.st L), some (.st W), some (.st Q), some (.st I), some g, some s, x6, x7, x8, x9, x10, x11, x12]) := by
  simp only [runM, outsOf, fSeq, fRet, fAsg, gN, fFz, fPeek, fBack, fDrop, fBin, fUn, fC, fCons, fNil, fLend, fCall, fCallK, pick, List.filterMap_cons, List.filterMap_nil, putBack, fIfS, fB, fNot, fAnd, fOr, fAndV, fOrV, fNext, fIf, fX, fLst, fTup, fMov, fPar, gs2, gs3, gT, gsCons, gsNil, fYes, gAdd_i, gLt_i, gSub_i, gDiv_i, gMod_i, gGt_i, gLe_i, gGe_i, gInt_i, gNeg_i, gAbs_i, gMax_i, gMin_i, OD.val, valL, valL_st, fItS, fFor, fLc, wipeR, fPart, fNoPart, fSl, fAppend, fExtend, fPop, fGet2, fD1, fDNew, keyD, gSetQ, gSetI, gSetD, stK_map, fItR1, fLRg, List.getElem?_cons_succ, List.getElem?_cons_zero, List.set_cons_succ, List.set_cons_zero, List.length_cons, List.length_nil, List.map_cons, List.map_nil, Option.map_some, Option.map_none, Nat.zero_add, Nat.reduceAdd, Nat.reduceLT, Nat.reduceEqDiff, and_self, big0, big1, big2, big3, big4, big5, if_true, if_false, ite_true, ite_false, Bool.not_true, Bool.not_false, Bool.true_and, Bool.false_and,PrS1, h1, h2]
theorem prTo {m : Mir} {g : OD} (h1 : m [.st L, .st Q, .st I] = some (g, [none, none, none])) :
    PrTo m [some (.st L), some (.st W), some (.st Q), some (.st I), x4, x5, x6, x7, x8, x9, x10, x11, x12] = some (.nx [some (.st L), some (.st W), some (.st Q), some (.st I), x4, x5, some (.ol [g, g]), x7, x8, x9, x10, x11, x12]) := by
  simp only [runM, outsOf, fSeq, fRet, fAsg, gN, fFz, fPeek, fBack, fDrop, fBin, fUn, fC, fCons, fNil, fLend, fCall, fCallK, pick, List.filterMap_cons, List.filterMap_nil, putBack, fIfS, fB, fNot, fAnd, fOr, fAndV, fOrV, fNext, fIf, fX, fLst, fTup, fMov, fPar, gs2, gs3, gT, gsCons, gsNil, fYes, gAdd_i, gLt_i, gSub_i, gDiv_i, gMod_i, gGt_i, gLe_i, gGe_i, gInt_i, gNeg_i, gAbs_i, gMax_i, gMin_i, OD.val, valL, valL_st, fItS, fFor, fLc, wipeR, fPart, fNoPart, fSl, fAppend, fExtend, fPop, fGet2, fD1, fDNew, keyD, gSetQ, gSetI, gSetD, stK_map, fItR1, fLRg, List.getElem?_cons_succ, List.getElem?_cons_zero, List.set_cons_succ, List.set_cons_zero, List.length_cons, List.length_nil, List.map_cons, List.map_nil, Option.map_some, Option.map_none, Nat.zero_add, Nat.reduceAdd, Nat.reduceLT, Nat.reduceEqDiff, and_self, big0, big1, big2, big3, big4, big5, if_true, if_false, ite_true, ite_false, Bool.not_true, Bool.not_false, Bool.true_and, Bool.false_and,PrTo, h1]
theorem kl : kitB "list" "list" = some true := by rfl
theorem ix20 : ixN 2 0 = some 0 := by rfl
theorem ix21 : ixN 2 1 = some 1 := by rfl
theorem prNe4 {G H J : List OD} (h1 : gNe (.ol [.ol G, .ol H]) (.ol [.st (.lst (valL J)), .st (.lst (valL J))]) = some (.st (.bl false))) :
    PrNe 4 [some (.st L), some (.st W), some (.st Q), some (.st I), some (.ol J), x5, some (.ol [.ol G, .ol H]), x7, x8, x9, x10, x11, x12] = some (.nx [some (.st L), some (.st W), some (.st Q), some (.st I), some (.st (.lst (valL J))), x5, some (.ol [.ol G, .ol H]), x7, x8, x9, x10, x11, x12]) := by
  simp only [runM, outsOf, fSeq, fRet, fAsg, gN, fFz, fPeek, fBack, fDrop, fBin, fUn, fC, fCons, fNil, fLend, fCall, fCallK, pick, List.filterMap_cons, List.filterMap_nil, putBack, fIfS, fB, fNot, fAnd, fOr, fAndV, fOrV, fNext, fIf, fX, fLst, fTup, fMov, fPar, gs2, gs3, gT, gsCons, gsNil, fYes, gAdd_i, gLt_i, gSub_i, gDiv_i, gMod_i, gGt_i, gLe_i, gGe_i, gInt_i, gNeg_i, gAbs_i, gMax_i, gMin_i, OD.val, valL, valL_st, fItS, fFor, fLc, wipeR, fPart, fNoPart, fSl, fAppend, fExtend, fPop, fGet2, fD1, fDNew, keyD, gSetQ, gSetI, gSetD, stK_map, fItR1, fLRg, List.getElem?_cons_succ, List.getElem?_cons_zero, List.set_cons_succ, List.set_cons_zero, List.length_cons, List.length_nil, List.map_cons, List.map_nil, Option.map_some, Option.map_none, Nat.zero_add, Nat.reduceAdd, Nat.reduceLT, Nat.reduceEqDiff, and_self, big0, big1, big2, big3, big4, big5, if_true, if_false, ite_true, ite_false, Bool.not_true, Bool.not_false, Bool.true_and, Bool.false_and,PrNe, fIsiAt, kl, ix20, h1]
theorem prNe5 {G H J : List OD} (h1 : gNe (.ol [.ol G, .ol H]) (.ol [.st (.lst (valL J)), .st (.lst (valL J))]) = some (.st (.bl false))) :
    PrNe 5 [some (.st L), some (.st W), some (.st Q), some (.st I), x4, some (.ol J), some (.ol [.ol G, .ol H]), x7, x8, x9, x10, x11, x12] = some (.nx [some (.st L), some (.st W), some (.st Q), some (.st I), x4, some (.st (.lst (valL J))), some (.ol [.ol G, .ol H]), x7, x8, x9, x10, x11, x12]) := by
  simp only [runM, outsOf, fSeq, fRet, fAsg, gN, fFz, fPeek, fBack, fDrop, fBin, fUn, fC, fCons, fNil, fLend, fCall, fCallK, pick, List.filterMap_cons, List.filterMap_nil, putBack, fIfS, fB, fNot, fAnd, fOr, fAndV, fOrV, fNext, fIf, fX, fLst, fTup, fMov, fPar, gs2, gs3, gT, gsCons, gsNil, fYes, gAdd_i, gLt_i, gSub_i, gDiv_i, gMod_i, gGt_i, gLe_i, gGe_i, gInt_i, gNeg_i, gAbs_i, gMax_i, gMin_i, OD.val, valL, valL_st, fItS, fFor, fLc, wipeR, fPart, fNoPart, fSl, fAppend, fExtend, fPop, fGet2, fD1, fDNew, keyD, gSetQ, gSetI, gSetD, stK_map, fItR1, fLRg, List.getElem?_cons_succ, List.getElem?_cons_zero, List.set_cons_succ, List.set_cons_zero, List.length_cons, List.length_nil, List.map_cons, List.map_nil, Option.map_some, Option.map_none, Nat.zero_add, Nat.reduceAdd, Nat.reduceLT, Nat.reduceEqDiff, and_self, big0, big1, big2, big3, big4, big5, if_true, if_false, ite_true, ite_false, Bool.not_true, Bool.not_false, Bool.true_and, Bool.false_and,PrNe, fIsiAt, kl, ix20, h1]
theorem prAp {G H : List OD} (hb : (G.length ≤ big) = True) :
    PrAp [some (.st L), some (.st W), some (.st Q), some (.st I), x4, x5, some (.ol [.ol G, .ol H]), x7, x8, x9, x10, x11, x12] = some (.nx [some (.st L), some (.st W), some (.st Q), some (.st I), x4, x5, some (.ol [.ol (G ++ [.st (.int 99)]), .ol H]), x7, x8, x9, x10, x11, x12]) := by
  simp only [runM, outsOf, fSeq, fRet, fAsg, gN, fFz, fPeek, fBack, fDrop, fBin, fUn, fC, fCons, fNil, fLend, fCall, fCallK, pick, List.filterMap_cons, List.filterMap_nil, putBack, fIfS, fB, fNot, fAnd, fOr, fAndV, fOrV, fNext, fIf, fX, fLst, fTup, fMov, fPar, gs2, gs3, gT, gsCons, gsNil, fYes, gAdd_i, gLt_i, gSub_i, gDiv_i, gMod_i, gGt_i, gLe_i, gGe_i, gInt_i, gNeg_i, gAbs_i, gMax_i, gMin_i, OD.val, valL, valL_st, fItS, fFor, fLc, wipeR, fPart, fNoPart, fSl, fAppend, fExtend, fPop, fGet2, fD1, fDNew, keyD, gSetQ, gSetI, gSetD, stK_map, fItR1, fLRg, List.getElem?_cons_succ, List.getElem?_cons_zero, List.set_cons_succ, List.set_cons_zero, List.length_cons, List.length_nil, List.map_cons, List.map_nil, Option.map_some, Option.map_none, Nat.zero_add, Nat.reduceAdd, Nat.reduceLT, Nat.reduceEqDiff, and_self, big0, big1, big2, big3, big4, big5, if_true, if_false, ite_true, ite_false, Bool.not_true, Bool.not_false, Bool.true_and, Bool.false_and,PrAp, fAppAt, ix20, hb]
theorem prCl1 {G H : List OD} :
    PrCl 1 [some (.st L), some (.st W), some (.st Q), some (.st I), x4, x5, some (.ol [.ol G, .ol H]), x7, x8, x9, x10, x11, x12] = some (.nx [some (.st L), some (.st W), some (.st Q), some (.st I), x4, x5, some (.ol [.ol G, .ol []]), x7, x8, x9, x10, x11, x12]) := by
  simp only [runM, outsOf, fSeq, fRet, fAsg, gN, fFz, fPeek, fBack, fDrop, fBin, fUn, fC, fCons, fNil, fLend, fCall, fCallK, pick, List.filterMap_cons, List.filterMap_nil, putBack, fIfS, fB, fNot, fAnd, fOr, fAndV, fOrV, fNext, fIf, fX, fLst, fTup, fMov, fPar, gs2, gs3, gT, gsCons, gsNil, fYes, gAdd_i, gLt_i, gSub_i, gDiv_i, gMod_i, gGt_i, gLe_i, gGe_i, gInt_i, gNeg_i, gAbs_i, gMax_i, gMin_i, OD.val, valL, valL_st, fItS, fFor, fLc, wipeR, fPart, fNoPart, fSl, fAppend, fExtend, fPop, fGet2, fD1, fDNew, keyD, gSetQ, gSetI, gSetD, stK_map, fItR1, fLRg, List.getElem?_cons_succ, List.getElem?_cons_zero, List.set_cons_succ, List.set_cons_zero, List.length_cons, List.length_nil, List.map_cons, List.map_nil, Option.map_some, Option.map_none, Nat.zero_add, Nat.reduceAdd, Nat.reduceLT, Nat.reduceEqDiff, and_self, big0, big1, big2, big3, big4, big5, if_true, if_false, ite_true, ite_false, Bool.not_true, Bool.not_false, Bool.true_and, Bool.false_and,PrCl, fClrAt, ix21]
theorem prCl0 {G H : List OD} :
    PrCl 0 [some (.st L), some (.st W), some (.st Q), some (.st I), x4, x5, some (.ol [.ol G, .ol H]), x7, x8, x9, x10, x11, x12] = some (.nx [some (.st L), some (.st W), some (.st Q), some (.st I), x4, x5, some (.ol [.ol [], .ol H]), x7, x8, x9, x10, x11, x12]) := by
  simp only [runM, outsOf, fSeq, fRet, fAsg, gN, fFz, fPeek, fBack, fDrop, fBin, fUn, fC, fCons, fNil, fLend, fCall, fCallK, pick, List.filterMap_cons, List.filterMap_nil, putBack, fIfS, fB, fNot, fAnd, fOr, fAndV, fOrV, fNext, fIf, fX, fLst, fTup, fMov, fPar, gs2, gs3, gT, gsCons, gsNil, fYes, gAdd_i, gLt_i, gSub_i, gDiv_i, gMod_i, gGt_i, gLe_i, gGe_i, gInt_i, gNeg_i, gAbs_i, gMax_i, gMin_i, OD.val, valL, valL_st, fItS, fFor, fLc, wipeR, fPart, fNoPart, fSl, fAppend, fExtend, fPop, fGet2, fD1, fDNew, keyD, gSetQ, gSetI, gSetD, stK_map, fItR1, fLRg, List.getElem?_cons_succ, List.getElem?_cons_zero, List.set_cons_succ, List.set_cons_zero, List.length_cons, List.length_nil, List.map_cons, List.map_nil, Option.map_some, Option.map_none, Nat.zero_add, Nat.reduceAdd, Nat.reduceLT, Nat.reduceEqDiff, and_self, big0, big1, big2, big3, big4, big5, if_true, if_false, ite_true, ite_false, Bool.not_true, Bool.not_false, Bool.true_and, Bool.false_and,PrCl, fClrAt, ix20]
theorem prOr {g s : OD} {G T : D} (h1 : m_forth_from [.st L, .st Q, .st I] = some (g, [none, none, none])) (h2 : m_forth_to [.st L, .st Q, .st I] = some (s, [none, none, none])) (h3 : gNe g (.st G) = some (.st (.bl false))) (h4 : gNe s (.st T) = some (.st (.bl false))) :
    PrOr [some (.st L), some (.st W), some (.st Q), some (.st I), some (.st G), some (.st T), x6, x7, x8, x9, x10, x11, x12] = some (.nx [some (.st L), some (.st W), some (.st Q), some (.st I), some (.st G), some (.st T), x6, x7, x8, x9, x10, x11, x12]) := by
  simp only [runM, outsOf, fSeq, fRet, fAsg, gN, fFz, fPeek, fBack, fDrop, fBin, fUn, fC, fCons, fNil, fLend, fCall, fCallK, pick, List.filterMap_cons, List.filterMap_nil, putBack, fIfS, fB, fNot, fAnd, fOr, fAndV, fOrV, fNext, fIf, fX, fLst, fTup, fMov, fPar, gs2, gs3, gT, gsCons, gsNil, fYes, gAdd_i, gLt_i, gSub_i, gDiv_i, gMod_i, gGt_i, gLe_i, gGe_i, gInt_i, gNeg_i, gAbs_i, gMax_i, gMin_i, OD.val, valL, valL_st, fItS, fFor, fLc, wipeR, fPart, fNoPart, fSl, fAppend, fExtend, fPop, fGet2, fD1, fDNew, keyD, gSetQ, gSetI, gSetD, stK_map, fItR1, fLRg, List.getElem?_cons_succ, List.getElem?_cons_zero, List.set_cons_succ, List.set_cons_zero, List.length_cons, List.length_nil, List.map_cons, List.map_nil, Option.map_some, Option.map_none, Nat.zero_add, Nat.reduceAdd, Nat.reduceLT, Nat.reduceEqDiff, and_self, big0, big1, big2, big3, big4, big5, if_true, if_false, ite_true, ite_false, Bool.not_true, Bool.not_false, Bool.true_and, Bool.false_and,PrOr, h1, h2, h3, h4]
theorem prJo {c : OD} (h1 : m_joined_to [.st L, .st Q, .st I] = some (c, [none, none, none])) :
    PrJo [some (.st L), some (.st W), some (.st Q), some (.st I), x4, x5, x6, x7, x8, x9, x10, x11, x12] = some (.nx [some (.st L), some (.st W), some (.st Q), some (.st I), x4, x5, x6, some c, x8, x9, x10, x11, x12]) := by
  simp only [runM, outsOf, fSeq, fRet, fAsg, gN, fFz, fPeek, fBack, fDrop, fBin, fUn, fC, fCons, fNil, fLend, fCall, fCallK, pick, List.filterMap_cons, List.filterMap_nil, putBack, fIfS, fB, fNot, fAnd, fOr, fAndV, fOrV, fNext, fIf, fX, fLst, fTup, fMov, fPar, gs2, gs3, gT, gsCons, gsNil, fYes, gAdd_i, gLt_i, gSub_i, gDiv_i, gMod_i, gGt_i, gLe_i, gGe_i, gInt_i, gNeg_i, gAbs_i, gMax_i, gMin_i, OD.val, valL, valL_st, fItS, fFor, fLc, wipeR, fPart, fNoPart, fSl, fAppend, fExtend, fPop, fGet2, fD1, fDNew, keyD, gSetQ, gSetI, gSetD, stK_map, fItR1, fLRg, List.getElem?_cons_succ, List.getElem?_cons_zero, List.set_cons_succ, List.set_cons_zero, List.length_cons, List.length_nil, List.map_cons, List.map_nil, Option.map_some, Option.map_none, Nat.zero_add, Nat.reduceAdd, Nat.reduceLT, Nat.reduceEqDiff, and_self, big0, big1, big2, big3, big4, big5, if_true, if_false, ite_true, ite_false, Bool.not_true, Bool.not_false, Bool.true_and, Bool.false_and,PrJo, h1]
theorem prAl {gs ss cs : List Int} (hs : ∀ x ∈ gs ++ ss, x ∈ cs) (hl : gs.length + ss.length ≤ 1000) (h8 : x8 = none) :
    PrAl [some (.st L), some (.st W), some (.st Q), some (.st I), some (.st (.lst (iD gs))), some (.st (.lst (iD ss))), x6, some (iO cs), x8, x9, x10, x11, x12] = some (.nx [some (.st L), some (.st W), some (.st Q), some (.st I), some (.st (.lst (iD gs))), some (.st (.lst (iD ss))), x6, some (iO cs), none, x9, x10, x11, x12]) := by
  subst h8
  have ad : gAdd (.st (.lst (iD gs))) (.st (.lst (iD ss))) = some (.ol ((iD (gs ++ ss)).map .st)) := by
    have := gAdd_l (x := .st (.lst (iD gs))) (y := .st (.lst (iD ss))) (xs := iD gs) (ys := iD ss) rfl rfl (by simp [big]; omega)
    rw [this, ← List.map_append]
  have cp := compL_pure (own := [8]) (tg := gN 8) (tt := fYes) (te := (fBin gInQ (fP 8) (fP 7))) (ρ0 := [some (.st L), some (.st W), some (.st Q), some (.st I), some (.st (.lst (iD gs))), some (.st (.lst (iD ss))), x6, some (iO cs), none, x9, x10, x11, x12])
    (p := fun _ => true) (g := fun _ => .st (.bl true)) (ds := iD (gs ++ ss)) (acc := []) (by
      intro d hd
      obtain ⟨x, hx, rfl⟩ := List.mem_map.mp hd
      have i1 := inQ_int (x := x) (seq_iO cs)
      rw [decide_eq_true (hs x hx)] at i1
      refine ⟨[some (.st L), some (.st W), some (.st Q), some (.st I), some (.st (.lst (iD gs))), some (.st (.lst (iD ss))), x6, some (iO cs), some (.st (.int x)), x9, x10, x11, x12], [some (.st L), some (.st W), some (.st Q), some (.st I), some (.st (.lst (iD gs))), some (.st (.lst (iD ss))), x6, some (iO cs), some (.st (.int x)), x9, x10, x11, x12], by simp [gN], rfl, (fun h => by cases h), fun _ => ⟨[some (.st L), some (.st W), some (.st Q), some (.st I), some (.st (.lst (iD gs))), some (.st (.lst (iD ss))), x6, some (iO cs), some (.st (.int x)), x9, x10, x11, x12], ?_, by simp [wipeR]⟩⟩
      unfold iO at *
      generalize (iD cs).map OD.st = C at *
      simp only [runM, outsOf, fSeq, fRet, fAsg, gN, fFz, fPeek, fBack, fDrop, fBin, fUn, fC, fCons, fNil, fLend, fCall, fCallK, pick, List.filterMap_cons, List.filterMap_nil, putBack, fIfS, fB, fNot, fAnd, fOr, fAndV, fOrV, fNext, fIf, fX, fLst, fTup, fMov, fPar, gs2, gs3, gT, gsCons, gsNil, fYes, gAdd_i, gLt_i, gSub_i, gDiv_i, gMod_i, gGt_i, gLe_i, gGe_i, gInt_i, gNeg_i, gAbs_i, gMax_i, gMin_i, OD.val, valL, valL_st, fItS, fFor, fLc, wipeR, fPart, fNoPart, fSl, fAppend, fExtend, fPop, fGet2, fD1, fDNew, keyD, gSetQ, gSetI, gSetD, stK_map, fItR1, fLRg, List.getElem?_cons_succ, List.getElem?_cons_zero, List.set_cons_succ, List.set_cons_zero, List.length_cons, List.length_nil, List.map_cons, List.map_nil, Option.map_some, Option.map_none, Nat.zero_add, Nat.reduceAdd, Nat.reduceLT, Nat.reduceEqDiff, and_self, big0, big1, big2, big3, big4, big5, if_true, if_false, ite_true, ite_false, Bool.not_true, Bool.not_false, Bool.true_and, Bool.false_and,i1]) (by simp [big]; omega)
  have al := trues ((iD (gs ++ ss)).filter fun _ => true)
  rw [List.nil_append] at cp
  unfold iO at *
  generalize (iD cs).map OD.st = C at *
  generalize ((iD (gs ++ ss)).filter fun _ => true).map (fun _ => OD.st (.bl true)) = V at *
  simp only [runM, outsOf, fSeq, fRet, fAsg, gN, fFz, fPeek, fBack, fDrop, fBin, fUn, fC, fCons, fNil, fLend, fCall, fCallK, pick, List.filterMap_cons, List.filterMap_nil, putBack, fIfS, fB, fNot, fAnd, fOr, fAndV, fOrV, fNext, fIf, fX, fLst, fTup, fMov, fPar, gs2, gs3, gT, gsCons, gsNil, fYes, gAdd_i, gLt_i, gSub_i, gDiv_i, gMod_i, gGt_i, gLe_i, gGe_i, gInt_i, gNeg_i, gAbs_i, gMax_i, gMin_i, OD.val, valL, valL_st, fItS, fFor, fLc, wipeR, fPart, fNoPart, fSl, fAppend, fExtend, fPop, fGet2, fD1, fDNew, keyD, gSetQ, gSetI, gSetD, stK_map, fItR1, fLRg, List.getElem?_cons_succ, List.getElem?_cons_zero, List.set_cons_succ, List.set_cons_zero, List.length_cons, List.length_nil, List.map_cons, List.map_nil, Option.map_some, Option.map_none, Nat.zero_add, Nat.reduceAdd, Nat.reduceLT, Nat.reduceEqDiff, and_self, big0, big1, big2, big3, big4, big5, if_true, if_false, ite_true, ite_false, Bool.not_true, Bool.not_false, Bool.true_and, Bool.false_and,PrAl, ad, valL_st, cp, al]
theorem prLa :
    PrLa [some (.st L), some (.st W), some (.st Q), some (.st I), x4, x5, x6, x7, x8, x9, x10, x11, x12] = some (.nx [some (.st L), some (.st W), some (.st Q), some (.st I), x4, x5, x6, x7, x8, some (.ol [.st I]), x10, x11, x12]) := by
  simp only [runM, outsOf, fSeq, fRet, fAsg, gN, fFz, fPeek, fBack, fDrop, fBin, fUn, fC, fCons, fNil, fLend, fCall, fCallK, pick, List.filterMap_cons, List.filterMap_nil, putBack, fIfS, fB, fNot, fAnd, fOr, fAndV, fOrV, fNext, fIf, fX, fLst, fTup, fMov, fPar, gs2, gs3, gT, gsCons, gsNil, fYes, gAdd_i, gLt_i, gSub_i, gDiv_i, gMod_i, gGt_i, gLe_i, gGe_i, gInt_i, gNeg_i, gAbs_i, gMax_i, gMin_i, OD.val, valL, valL_st, fItS, fFor, fLc, wipeR, fPart, fNoPart, fSl, fAppend, fExtend, fPop, fGet2, fD1, fDNew, keyD, gSetQ, gSetI, gSetD, stK_map, fItR1, fLRg, List.getElem?_cons_succ, List.getElem?_cons_zero, List.set_cons_succ, List.set_cons_zero, List.length_cons, List.length_nil, List.map_cons, List.map_nil, Option.map_some, Option.map_none, Nat.zero_add, Nat.reduceAdd, Nat.reduceLT, Nat.reduceEqDiff, and_self, big0, big1, big2, big3, big4, big5, if_true, if_false, ite_true, ite_false, Bool.not_true, Bool.not_false, Bool.true_and, Bool.false_and,PrLa]
theorem prLB_f {a : D} (h : gEq (.st a) (.st I) = some (.st (.bl false))) :
    PrLB [some (.st L), some (.st W), some (.st Q), some (.st I), x4, x5, x6, x7, x8, x9, some (.st a), x11, x12] = some (.nx [some (.st L), some (.st W), some (.st Q), some (.st I), x4, x5, x6, x7, x8, x9, some (.st a), x11, x12]) := by
  simp only [runM, outsOf, fSeq, fRet, fAsg, gN, fFz, fPeek, fBack, fDrop, fBin, fUn, fC, fCons, fNil, fLend, fCall, fCallK, pick, List.filterMap_cons, List.filterMap_nil, putBack, fIfS, fB, fNot, fAnd, fOr, fAndV, fOrV, fNext, fIf, fX, fLst, fTup, fMov, fPar, gs2, gs3, gT, gsCons, gsNil, fYes, gAdd_i, gLt_i, gSub_i, gDiv_i, gMod_i, gGt_i, gLe_i, gGe_i, gInt_i, gNeg_i, gAbs_i, gMax_i, gMin_i, OD.val, valL, valL_st, fItS, fFor, fLc, wipeR, fPart, fNoPart, fSl, fAppend, fExtend, fPop, fGet2, fD1, fDNew, keyD, gSetQ, gSetI, gSetD, stK_map, fItR1, fLRg, List.getElem?_cons_succ, List.getElem?_cons_zero, List.set_cons_succ, List.set_cons_zero, List.length_cons, List.length_nil, List.map_cons, List.map_nil, Option.map_some, Option.map_none, Nat.zero_add, Nat.reduceAdd, Nat.reduceLT, Nat.reduceEqDiff, and_self, big0, big1, big2, big3, big4, big5, if_true, if_false, ite_true, ite_false, Bool.not_true, Bool.not_false, Bool.true_and, Bool.false_and,PrLB, h]
theorem prLB_t {f r : OD} {l : List OD} {a b : D} (h : gEq (.st a) (.st I) = some (.st (.bl true))) (h1 : m_forth_from [.st L, .st Q, .st b] = some (f, [none, none, none])) (h2 : gAdd (.ol l) f = some r) :
    PrLB [some (.st L), some (.st W), some (.st Q), some (.st I), x4, x5, x6, x7, x8, some (.ol l), some (.st a), some (.st b), x12] = some (.nx [some (.st L), some (.st W), some (.st Q), some (.st I), x4, x5, x6, x7, x8, some r, some (.st a), some (.st b), x12]) := by
  simp only [runM, outsOf, fSeq, fRet, fAsg, gN, fFz, fPeek, fBack, fDrop, fBin, fUn, fC, fCons, fNil, fLend, fCall, fCallK, pick, List.filterMap_cons, List.filterMap_nil, putBack, fIfS, fB, fNot, fAnd, fOr, fAndV, fOrV, fNext, fIf, fX, fLst, fTup, fMov, fPar, gs2, gs3, gT, gsCons, gsNil, fYes, gAdd_i, gLt_i, gSub_i, gDiv_i, gMod_i, gGt_i, gLe_i, gGe_i, gInt_i, gNeg_i, gAbs_i, gMax_i, gMin_i, OD.val, valL, valL_st, fItS, fFor, fLc, wipeR, fPart, fNoPart, fSl, fAppend, fExtend, fPop, fGet2, fD1, fDNew, keyD, gSetQ, gSetI, gSetD, stK_map, fItR1, fLRg, List.getElem?_cons_succ, List.getElem?_cons_zero, List.set_cons_succ, List.set_cons_zero, List.length_cons, List.length_nil, List.map_cons, List.map_nil, Option.map_some, Option.map_none, Nat.zero_add, Nat.reduceAdd, Nat.reduceLT, Nat.reduceEqDiff, and_self, big0, big1, big2, big3, big4, big5, if_true, if_false, ite_true, ite_false, Bool.not_true, Bool.not_false, Bool.true_and, Bool.false_and,PrLB, h, h1, h2]
theorem prRe {l : List OD} {s : OD} {G : D} (h : gSortSet2 (.ol l) = some s) (h2 : gEq s (.st G) = some (.st (.bl true))) :
    PrRe [some (.st L), some (.st W), some (.st Q), some (.st I), some (.st G), x5, x6, x7, x8, some (.ol l), x10, x11, x12] = some (.rt (.st (.bl true)) [some (.st L), some (.st W), some (.st Q), some (.st I), some (.st G), x5, x6, x7, x8, some (.ol l), x10, x11, x12]) := by
  simp only [runM, outsOf, fSeq, fRet, fAsg, gN, fFz, fPeek, fBack, fDrop, fBin, fUn, fC, fCons, fNil, fLend, fCall, fCallK, pick, List.filterMap_cons, List.filterMap_nil, putBack, fIfS, fB, fNot, fAnd, fOr, fAndV, fOrV, fNext, fIf, fX, fLst, fTup, fMov, fPar, gs2, gs3, gT, gsCons, gsNil, fYes, gAdd_i, gLt_i, gSub_i, gDiv_i, gMod_i, gGt_i, gLe_i, gGe_i, gInt_i, gNeg_i, gAbs_i, gMax_i, gMin_i, OD.val, valL, valL_st, fItS, fFor, fLc, wipeR, fPart, fNoPart, fSl, fAppend, fExtend, fPop, fGet2, fD1, fDNew, keyD, gSetQ, gSetI, gSetD, stK_map, fItR1, fLRg, List.getElem?_cons_succ, List.getElem?_cons_zero, List.set_cons_succ, List.set_cons_zero, List.length_cons, List.length_nil, List.map_cons, List.map_nil, Option.map_some, Option.map_none, Nat.zero_add, Nat.reduceAdd, Nat.reduceLT, Nat.reduceEqDiff, and_self, big0, big1, big2, big3, big4, big5, if_true, if_false, ite_true, ite_false, Bool.not_true, Bool.not_false, Bool.true_and, Bool.false_and,PrRe, h, h2]
end
theorem iO_app (l m : List Int) (h : l.length + m.length ≤ 100000) : gAdd (iO l) (iO m) = some (iO (l ++ m)) := by
  rw [gAdd_l (rd_ol _) (rd_ol _) (by simp [big]; omega)]
  unfold iO
  rw [← List.map_append]
/-- what the loop over the bridges gathers -/
noncomputable def gath (E : List (Int × Int)) (n : Nat) (i : Int) (B : List Tri) : List Int := B.flatMap fun t => if t.1 = i then rl E n t.2.1 else []
theorem gath_mem {E : List (Int × Int)} {n : Nat} {i x : Int} {B : List Tri} : x ∈ gath E n i B ↔ ∃ t ∈ B, t.1 = i ∧ x ∈ rl E n t.2.1 := by
  unfold gath
  rw [List.mem_flatMap]
  constructor
  · rintro ⟨t, ht, h⟩
    split at h
    · rename_i e
      exact ⟨t, ht, e, h⟩
    · cases h
  · rintro ⟨t, ht, e, h⟩
    exact ⟨t, ht, by rw [if_pos e]; exact h⟩
theorem gath_len {E : List (Int × Int)} {n : Nat} {i : Int} : ∀ B : List Tri, (gath E n i B).length ≤ n * (B.filter fun t => decide (t.1 = i)).length
  | [] => by simp [gath]
  | t :: r => by
    have ih := gath_len (E := E) (n := n) (i := i) r
    unfold gath at ih ⊢
    rw [List.flatMap_cons, List.length_append]
    by_cases h : t.1 = i
    · rw [if_pos h, List.filter_cons, if_pos (by simpa using h), List.length_cons, Nat.mul_succ]
      have := rl_len E n t.2.1
      omega
    · rw [if_neg h, List.filter_cons, if_neg (by simpa using h)]
      simp only [List.length_nil]
      omega
theorem nd_one {p : Nat} : ∀ {l : List Nat}, l.Nodup → (l.filter fun x => decide (x = p)).length ≤ 1 := fun {l} h => by
  have h2 : (l.filter fun x => decide (x = p)).Nodup := h.sublist List.filter_sublist
  cases hc : l.filter fun x => decide (x = p) with
  | nil => simp
  | cons a r =>
    cases r with
    | nil => simp
    | cons b r =>
      exfalso
      rw [hc] at h2
      have ha : a = p := by
        have : a ∈ l.filter fun x => decide (x = p) := by rw [hc]; simp
        simpa using (List.mem_filter.mp this).2
      have hb : b = p := by
        have : b ∈ l.filter fun x => decide (x = p) := by rw [hc]; simp
        simpa using (List.mem_filter.mp this).2
      subst ha
      subst hb
      simp at h2
theorem raw_from {q : List Nat} {i : Nat} : ∀ ws : List (List Nat), ((rawT q ws).filter fun t => decide (t.1 = (i : Int))).length ≤ ws.length
  | [] => by simp [rawT]
  | w :: r => by
    have ih := raw_from (q := q) (i := i) r
    unfold rawT at ih ⊢
    rw [List.flatMap_cons, List.filter_append, List.length_append, List.length_cons]
    have : (((occ q w).map fun (p : Nat) => (((p : Int), (p : Int) + (w.length : Int), tx w) : Tri)).filter fun t => decide (t.1 = (i : Int))).length ≤ 1 := by
      rw [List.filter_map, List.length_map]
      refine Nat.le_trans (Nat.le_of_eq ?_) (nd_one (p := i) (occ_nd q w))
      congr 1
      refine List.filter_congr fun x _ => ?_
      simp only [Function.comp]
      by_cases h : x = i
      · simp [h]
      · rw [decide_eq_false h, decide_eq_false (by omega)]
    exact Nat.le_trans (Nat.add_le_add this ih) (Nat.le_of_eq (Nat.add_comm _ _))
theorem bT_from {q : List Nat} {ws : List (List Nat)} {i : Nat} : ((bT q ws).filter fun t => decide (t.1 = (i : Int))).length ≤ ws.length := by
  unfold bT
  rw [((List.mergeSort_perm (rawT q ws) leT).filter _).length_eq]
  exact raw_from ws
theorem prLoop {L W Q : D} {i : Nat} {x4 x5 x6 x7 x8 : Option OD} {E : List (Int × Int)} {n : Nat} (hn : n ≤ 25) : ∀ (B : List Tri) (l : List Int) (x10 x11 x12 : Option OD), (∀ t ∈ B, m_forth_from [.st L, .st Q, .st (.int t.2.1)] = some (iO (rl E n t.2.1), [none, none, none])) → l.length + 25 * B.length ≤ 10000 →
    ∃ y10 y11 y12, loopF (gT 3 (gsCons (gN 10) (gsCons (gN 11) (gsCons (gN 12) gsNil)))) PrLB (tD B) [some (.st L), some (.st W), some (.st Q), some (.st (.int (i : Int))), x4, x5, x6, x7, x8, some (iO l), x10, x11, x12] =
      some (.nx [some (.st L), some (.st W), some (.st Q), some (.st (.int (i : Int))), x4, x5, x6, x7, x8, some (iO (l ++ gath E n (i : Int) B)), y10, y11, y12])
  | [], l, x10, x11, x12, _, _ => ⟨x10, x11, x12, by simp [loopF, gath]⟩
  | t :: B, l, x10, x11, x12, h, hb => by
    simp only [List.length_cons, Nat.mul_succ] at hb
    have hl := rl_len E n t.2.1
    have tg : gT 3 (gsCons (gN 10) (gsCons (gN 11) (gsCons (gN 12) gsNil))) (.st (tupT t)) [some (.st L), some (.st W), some (.st Q), some (.st (.int (i : Int))), x4, x5, x6, x7, x8, some (iO l), x10, x11, x12] = some [some (.st L), some (.st W), some (.st Q), some (.st (.int (i : Int))), x4, x5, x6, x7, x8, some (iO l), some (.st (.int t.1)), some (.st (.int t.2.1)), some (.st (.str t.2.2))] := by
      unfold iO
      generalize (iD l).map OD.st = R
      generalize (i : Int) = j
      simp only [runM, outsOf, fSeq, fRet, fAsg, gN, fFz, fPeek, fBack, fDrop, fBin, fUn, fC, fCons, fNil, fLend, fCall, fCallK, pick, List.filterMap_cons, List.filterMap_nil, putBack, fIfS, fB, fNot, fAnd, fOr, fAndV, fOrV, fNext, fIf, fX, fLst, fTup, fMov, fPar, gs2, gs3, gT, gsCons, gsNil, fYes, gAdd_i, gLt_i, gSub_i, gDiv_i, gMod_i, gGt_i, gLe_i, gGe_i, gInt_i, gNeg_i, gAbs_i, gMax_i, gMin_i, OD.val, valL, valL_st, fItS, fFor, fLc, wipeR, fPart, fNoPart, fSl, fAppend, fExtend, fPop, fGet2, fD1, fDNew, keyD, gSetQ, gSetI, gSetD, stK_map, fItR1, fLRg, List.getElem?_cons_succ, List.getElem?_cons_zero, List.set_cons_succ, List.set_cons_zero, List.length_cons, List.length_nil, List.map_cons, List.map_nil, Option.map_some, Option.map_none, Nat.zero_add, Nat.reduceAdd, Nat.reduceLT, Nat.reduceEqDiff, and_self, big0, big1, big2, big3, big4, big5, if_true, if_false, ite_true, ite_false, Bool.not_true, Bool.not_false, Bool.true_and, Bool.false_and]
    by_cases ht : t.1 = (i : Int)
    · obtain ⟨y10, y11, y12, e⟩ := prLoop (L := L) (W := W) (Q := Q) (i := i) (x4 := x4) (x5 := x5) (x6 := x6) (x7 := x7) (x8 := x8) (E := E) hn B (l ++ rl E n t.2.1) (some (.st (.int t.1))) (some (.st (.int t.2.1))) (some (.st (.str t.2.2))) (fun u hu => h u (List.mem_cons_of_mem _ hu)) (by rw [List.length_append]; omega)
      refine ⟨y10, y11, y12, ?_⟩
      have q1 := eqI t.1 (i : Int)
      rw [decide_eq_true ht] at q1
      have := prLB_t (W := W) (x4 := x4) (x5 := x5) (x6 := x6) (x7 := x7) (x8 := x8) (x12 := some (.st (.str t.2.2))) q1 (h t List.mem_cons_self) (iO_app l (rl E n t.2.1) (by omega))
      have sf := loopF_nx (tg := gT 3 (gsCons (gN 10) (gsCons (gN 11) (gsCons (gN 12) gsNil)))) (body := PrLB) (ds := tD B) (by unfold stepF; rw [tg]; exact this)
      rw [show tD (t :: B) = tupT t :: tD B from rfl, sf, e, List.append_assoc]
      have : gath E n (i : Int) (t :: B) = rl E n t.2.1 ++ gath E n (i : Int) B := by
        unfold gath
        rw [List.flatMap_cons, if_pos ht]
      rw [this]
    · obtain ⟨y10, y11, y12, e⟩ := prLoop (L := L) (W := W) (Q := Q) (i := i) (x4 := x4) (x5 := x5) (x6 := x6) (x7 := x7) (x8 := x8) (E := E) hn B l (some (.st (.int t.1))) (some (.st (.int t.2.1))) (some (.st (.str t.2.2))) (fun u hu => h u (List.mem_cons_of_mem _ hu)) (by omega)
      refine ⟨y10, y11, y12, ?_⟩
      have q1 := eqI t.1 (i : Int)
      rw [decide_eq_false ht] at q1
      have := prLB_f (L := L) (W := W) (Q := Q) (x4 := x4) (x5 := x5) (x6 := x6) (x7 := x7) (x8 := x8) (x9 := some (iO l)) (x11 := some (.st (.int t.2.1))) (x12 := some (.st (.str t.2.2))) q1
      have sf := loopF_nx (tg := gT 3 (gsCons (gN 10) (gsCons (gN 11) (gsCons (gN 12) gsNil)))) (body := PrLB) (ds := tD B) (by unfold stepF; rw [tg]; exact this)
      rw [show tD (t :: B) = tupT t :: tD B from rfl, sf, e]
      have : gath E n (i : Int) (t :: B) = gath E n (i : Int) B := by
        unfold gath
        rw [List.flatMap_cons, if_neg ht, List.nil_append]
      rw [this]
end Lw
set_option Elab.async false
set_option linter.all false
set_option maxRecDepth 100000
set_option maxHeartbeats 400000
namespace Lw
open PySem L2 Qy

theorem py2 {o : OD} {g : List Int} (h : o.val = .lst (iD g)) : OD.py (.ol [o, o]) = some (.list [.list (g.map .int), .list (g.map .int)]) := by
  unfold OD.py
  show D.py (.lst [o.val, o.val]) = _
  rw [h]
  show (match (pyL (iD g)).map PyData.list, (match (pyL (iD g)).map PyData.list, pyL [] with | some p, some ps => some (p :: ps) | _, _ => none) with | some p, some ps => some (p :: ps) | _, _ => none).map PyData.list = _
  rw [pyL_i]
  rfl
theorem shaped2 (g : List Int) : SeqAt.shaped (.list [.list (g.map .int), .list (g.map .int)]) = true := by
  unfold SeqAt.shaped
  rw [show PyData.canLay0 (.list [.list (g.map .int), .list (g.map .int)]) = (PyData.canLayAll0 (g.map .int) && (PyData.canLayAll0 (g.map .int) && true)) from rfl, lay_i]
  show (true && decide (max (PyData.depthAll (g.map .int) + 1) (max (PyData.depthAll (g.map .int) + 1) 0) + 1 ≤ 64)) = true
  rw [depth_i]
  rfl
theorem ne2 (g : List Int) : gNe (.ol [iO g, iO g]) (.ol [.st (.lst (valL ((iD g).map .st))), .st (.lst (valL ((iD g).map .st)))]) = some (.st (.bl false)) :=
  ne_py (py2 (val_iO g)) (py2 (by rw [valL_st]; rfl)) (shaped2 g)
theorem py_iL (g : List Int) : OD.py (.st (.lst (valL ((iD g).map .st)))) = some (.list (g.map .int)) := by
  rw [valL_st]
  show (pyL _).map PyData.list = _
  rw [pyL_i]
  rfl
theorem intsOf_i (l : List Int) : intsOf (iD l) = some l := ints_map l
theorem sortSet2_i {l : List Int} (h : l.length ≤ 1000) (h2 : (uniI l).length < 64) : gSortSet2 (iO l) = some (iO (uniI l)) := by
  unfold gSortSet2
  rw [rd_ol]
  simp only [intsOf_i]
  rw [if_pos ⟨h, h2⟩]
  unfold iO
  rw [List.map_map]
  rfl
theorem prIt {L W Q I : D} {x4 x5 x6 x7 x8 x9 x10 x11 x12 : Option OD} {B : List D} (h : m_bridges_at [.st L, .st Q, .st I] = some (.ol (B.map .st), [none, none, none])) :
    fItS (fFz (fE (fCall m_bridges_at (fCons (fFz (fP 0)) (fCons (fFz (fP 2)) (fCons (fFz (fP 3)) fNil))) [none, none, none]))) [some (.st L), some (.st W), some (.st Q), some (.st I), x4, x5, x6, x7, x8, x9, x10, x11, x12] = some (B, [some (.st L), some (.st W), some (.st Q), some (.st I), x4, x5, x6, x7, x8, x9, x10, x11, x12]) := by
  simp only [runM, outsOf, fSeq, fRet, fAsg, gN, fFz, fPeek, fBack, fDrop, fBin, fUn, fC, fCons, fNil, fLend, fCall, fCallK, pick, List.filterMap_cons, List.filterMap_nil, putBack, fIfS, fB, fNot, fAnd, fOr, fAndV, fOrV, fNext, fIf, fX, fLst, fTup, fMov, fPar, gs2, gs3, gT, gsCons, gsNil, fYes, gAdd_i, gLt_i, gSub_i, gDiv_i, gMod_i, gGt_i, gLe_i, gGe_i, gInt_i, gNeg_i, gAbs_i, gMax_i, gMin_i, OD.val, valL, valL_st, fItS, fFor, fLc, wipeR, fPart, fNoPart, fSl, fAppend, fExtend, fPop, fGet2, fD1, fDNew, keyD, gSetQ, gSetI, gSetD, stK_map, fItR1, fLRg, List.getElem?_cons_succ, List.getElem?_cons_zero, List.set_cons_succ, List.set_cons_zero, List.length_cons, List.length_nil, List.map_cons, List.map_nil, Option.map_some, Option.map_none, Nat.zero_add, Nat.reduceAdd, Nat.reduceLT, Nat.reduceEqDiff, and_self, big0, big1, big2, big3, big4, big5, if_true, if_false, ite_true, ite_false, Bool.not_true, Bool.not_false, Bool.true_and, Bool.false_and,h]
theorem place_right_ok {ws : List (List Nat)} {q : List Nat} (hq : QOk q) (hw : WOk ws) {i : Nat} (hi : i ≤ q.length) : m_law_place_right [.st (lotD (sw ws)), .st (.lst (wD ws)), .st (.str (tx q)), .st (.int (i : Int))] = some (.st (.bl true), [none, none, none, none]) := by
  have hql := hq.len
  have hnum := hw.num
  have hs : WOk (sw ws) := hw.perm (sw_perm ws)
  have eb : bT q (sw ws) = bT q ws := bT_perm q (sw_perm ws)
  have a1 := goals_ok hq hw hi
  have a2 := starts_ok hq hw hi
  have a3 := forth_from_ok hq hs (i := (i : Int)) (by omega) (by omega)
  have a4 := forth_to_ok hq hs (i := (i : Int)) (by omega) (by omega)
  have a5 := joined_to_ok hq hs (i := (i : Int)) (by omega) (by omega)
  have a6 := bridges_at_ok hq hs (i := (i : Int)) (by omega) (by omega)
  have hL := bT_ok (q := q) hw.ne hq.len hw.num
  have a7 : ∀ t ∈ (bT q ws).filter (fun t => decide ((i : Int) ∈ [t.1, t.2.1])), m_forth_from [.st (lotD (sw ws)), .st (.str (tx q)), .st (.int t.2.1)] = some (iO (rl (eB (bT q ws)) (q.length + 1) t.2.1), [none, none, none]) := fun t ht => by
    have := hL.lt t ((List.mem_filter.mp ht).1)
    have := forth_from_ok hq hs (i := t.2.1) (by omega) (by omega)
    rwa [eb] at this
  rw [eb] at a3 a4 a5 a6
  have l1 := rl_len (eB (bT q ws)) (q.length + 1) (i : Int)
  have l2 := rl_len (swapE (eB (bT q ws))) (q.length + 1) (i : Int)
  have hBl := hL.len
  have hFl := List.length_filter_le (fun t : Tri => decide ((i : Int) ∈ [t.1, t.2.1])) (bT q ws)
  have hF2 : (((bT q ws).filter fun t => decide ((i : Int) ∈ [t.1, t.2.1])).filter fun t => decide (t.1 = (i : Int))).length ≤ ws.length := Nat.le_trans ((List.filter_sublist.filter _).length_le) bT_from
  have gl := gath_len (E := eB (bT q ws)) (n := q.length + 1) (i := (i : Int)) ((bT q ws).filter fun t => decide ((i : Int) ∈ [t.1, t.2.1]))
  have gl2 : (q.length + 1) * (((bT q ws).filter fun t => decide ((i : Int) ∈ [t.1, t.2.1])).filter fun t => decide (t.1 = (i : Int))).length ≤ 25 * 10 := Nat.mul_le_mul (by omega) (by omega)
  have un : uniI ([(i : Int)] ++ gath (eB (bT q ws)) (q.length + 1) (i : Int) ((bT q ws).filter fun t => decide ((i : Int) ∈ [t.1, t.2.1]))) = rl (eB (bT q ws)) (q.length + 1) (i : Int) := by
    refine lt_same (uniI_lt _) (rl_lt _ _ _) fun k => ?_
    rw [uniI_mem, List.mem_append, gath_mem, rl_mem]
    constructor
    · rintro (h | ⟨t, ht, e, h⟩)
      · rw [List.mem_singleton] at h
        subst h
        exact ⟨by omega, .here⟩
      · obtain ⟨h1, h2⟩ := rl_mem.mp h
        exact ⟨h1, rch_first.mpr (.inr ⟨t.2.1, List.mem_map.mpr ⟨t, (List.mem_filter.mp ht).1, by rw [e]⟩, h2⟩)⟩
    · rintro ⟨h1, h2⟩
      rcases rch_first.mp h2 with h | ⟨c, hc, h3⟩
      · exact .inl (by simp [h])
      · obtain ⟨t, ht, et⟩ := List.mem_map.mp hc
        have e1 : t.1 = (i : Int) := congrArg Prod.fst et
        have e2 : t.2.1 = c := congrArg Prod.snd et
        refine .inr ⟨t, List.mem_filter.mpr ⟨ht, by simp [e1]⟩, e1, rl_mem.mpr ⟨h1, by rw [e2]; exact h3⟩⟩
  have b1 := pr1 (L := lotD (sw ws)) (x4 := none) (x5 := none) (x6 := none) (x7 := none) (x8 := none) (x9 := none) (x10 := none) (x11 := none) (x12 := none) a1 a2
  have b2 := prTo (W := .lst (wD ws)) (x4 := some (iO (rl (eB (bT q ws)) (q.length + 1) (i : Int)))) (x5 := some (iO (rl (swapE (eB (bT q ws))) (q.length + 1) (i : Int)))) (x6 := none) (x7 := none) (x8 := none) (x9 := none) (x10 := none) (x11 := none) (x12 := none) a3
  have b3 := prNe4 (L := lotD (sw ws)) (W := .lst (wD ws)) (Q := .str (tx q)) (I := .int (i : Int)) (x5 := some (iO (rl (swapE (eB (bT q ws))) (q.length + 1) (i : Int)))) (x7 := none) (x8 := none) (x9 := none) (x10 := none) (x11 := none) (x12 := none) (ne2 (rl (eB (bT q ws)) (q.length + 1) (i : Int)))
  have b4 := prAp (L := lotD (sw ws)) (W := .lst (wD ws)) (Q := .str (tx q)) (I := .int (i : Int)) (x4 := some (.st (.lst (valL ((iD (rl (eB (bT q ws)) (q.length + 1) (i : Int))).map .st))))) (x5 := some (iO (rl (swapE (eB (bT q ws))) (q.length + 1) (i : Int)))) (x7 := none) (x8 := none) (x9 := none) (x10 := none) (x11 := none) (x12 := none) (G := (iD (rl (eB (bT q ws)) (q.length + 1) (i : Int))).map .st) (H := (iD (rl (eB (bT q ws)) (q.length + 1) (i : Int))).map .st) (eq_true (by simp [big]; omega))
  have b5 := prCl1 (L := lotD (sw ws)) (W := .lst (wD ws)) (Q := .str (tx q)) (I := .int (i : Int)) (x4 := some (.st (.lst (valL ((iD (rl (eB (bT q ws)) (q.length + 1) (i : Int))).map .st))))) (x5 := some (iO (rl (swapE (eB (bT q ws))) (q.length + 1) (i : Int)))) (x7 := none) (x8 := none) (x9 := none) (x10 := none) (x11 := none) (x12 := none) (G := (iD (rl (eB (bT q ws)) (q.length + 1) (i : Int))).map .st ++ [.st (.int 99)]) (H := (iD (rl (eB (bT q ws)) (q.length + 1) (i : Int))).map .st)
  have b6 := prTo (W := .lst (wD ws)) (x4 := some (.st (.lst (valL ((iD (rl (eB (bT q ws)) (q.length + 1) (i : Int))).map .st))))) (x5 := some (iO (rl (swapE (eB (bT q ws))) (q.length + 1) (i : Int)))) (x6 := some (.ol [.ol ((iD (rl (eB (bT q ws)) (q.length + 1) (i : Int))).map .st ++ [.st (.int 99)]), .ol []])) (x7 := none) (x8 := none) (x9 := none) (x10 := none) (x11 := none) (x12 := none) a4
  have b7 := prNe5 (L := lotD (sw ws)) (W := .lst (wD ws)) (Q := .str (tx q)) (I := .int (i : Int)) (x4 := some (.st (.lst (valL ((iD (rl (eB (bT q ws)) (q.length + 1) (i : Int))).map .st))))) (x7 := none) (x8 := none) (x9 := none) (x10 := none) (x11 := none) (x12 := none) (ne2 (rl (swapE (eB (bT q ws))) (q.length + 1) (i : Int)))
  have b8 := prCl0 (L := lotD (sw ws)) (W := .lst (wD ws)) (Q := .str (tx q)) (I := .int (i : Int)) (x4 := some (.st (.lst (valL ((iD (rl (eB (bT q ws)) (q.length + 1) (i : Int))).map .st))))) (x5 := some (.st (.lst (valL ((iD (rl (swapE (eB (bT q ws))) (q.length + 1) (i : Int))).map .st))))) (x7 := none) (x8 := none) (x9 := none) (x10 := none) (x11 := none) (x12 := none) (G := (iD (rl (swapE (eB (bT q ws))) (q.length + 1) (i : Int))).map .st) (H := (iD (rl (swapE (eB (bT q ws))) (q.length + 1) (i : Int))).map .st)
  have b9 := prOr (W := .lst (wD ws)) (x6 := some (.ol [.ol [], .ol ((iD (rl (swapE (eB (bT q ws))) (q.length + 1) (i : Int))).map .st)])) (x7 := none) (x8 := none) (x9 := none) (x10 := none) (x11 := none) (x12 := none) a3 a4 (ne_py (py_iO _) (py_iL (rl (eB (bT q ws)) (q.length + 1) (i : Int))) (shaped_i _)) (ne_py (py_iO _) (py_iL (rl (swapE (eB (bT q ws))) (q.length + 1) (i : Int))) (shaped_i _))
  have b10 := prJo (W := .lst (wD ws)) (x4 := some (.st (.lst (valL ((iD (rl (eB (bT q ws)) (q.length + 1) (i : Int))).map .st))))) (x5 := some (.st (.lst (valL ((iD (rl (swapE (eB (bT q ws))) (q.length + 1) (i : Int))).map .st))))) (x6 := some (.ol [.ol [], .ol ((iD (rl (swapE (eB (bT q ws))) (q.length + 1) (i : Int))).map .st)])) (x7 := none) (x8 := none) (x9 := none) (x10 := none) (x11 := none) (x12 := none) a5
  have b11 := prAl (L := lotD (sw ws)) (W := .lst (wD ws)) (Q := .str (tx q)) (I := .int (i : Int)) (x6 := some (.ol [.ol [], .ol ((iD (rl (swapE (eB (bT q ws))) (q.length + 1) (i : Int))).map .st)])) (x8 := none) (x9 := none) (x10 := none) (x11 := none) (x12 := none) (gs := rl (eB (bT q ws)) (q.length + 1) (i : Int)) (ss := rl (swapE (eB (bT q ws))) (q.length + 1) (i : Int)) (cs := cl (q.length + 1) (bT q ws) (i : Int)) (fun x hx => by
    rcases List.mem_append.mp hx with hx | hx
    · obtain ⟨h1, h2⟩ := rl_mem.mp hx
      exact rl_mem.mpr ⟨h1, h2.mono fun p hp => List.mem_append.mpr (.inl hp)⟩
    · obtain ⟨h1, h2⟩ := rl_mem.mp hx
      exact rl_mem.mpr ⟨h1, h2.mono fun p hp => List.mem_append.mpr (.inr hp)⟩) (by omega) rfl
  have b12 := prLa (L := lotD (sw ws)) (W := .lst (wD ws)) (Q := .str (tx q)) (I := .int (i : Int)) (x4 := some (.st (.lst (iD (rl (eB (bT q ws)) (q.length + 1) (i : Int)))))) (x5 := some (.st (.lst (iD (rl (swapE (eB (bT q ws))) (q.length + 1) (i : Int)))))) (x6 := some (.ol [.ol [], .ol ((iD (rl (swapE (eB (bT q ws))) (q.length + 1) (i : Int))).map .st)])) (x7 := some (iO (cl (q.length + 1) (bT q ws) (i : Int)))) (x8 := none) (x9 := none) (x10 := none) (x11 := none) (x12 := none)
  have it := prIt (W := .lst (wD ws)) (x4 := some (.st (.lst (iD (rl (eB (bT q ws)) (q.length + 1) (i : Int)))))) (x5 := some (.st (.lst (iD (rl (swapE (eB (bT q ws))) (q.length + 1) (i : Int)))))) (x6 := some (.ol [.ol [], .ol ((iD (rl (swapE (eB (bT q ws))) (q.length + 1) (i : Int))).map .st)])) (x7 := some (iO (cl (q.length + 1) (bT q ws) (i : Int)))) (x8 := none) (x9 := some (iO [(i : Int)])) (x10 := none) (x11 := none) (x12 := none) a6
  obtain ⟨y10, y11, y12, lp⟩ := prLoop (L := lotD (sw ws)) (W := .lst (wD ws)) (Q := .str (tx q)) (i := i) (x4 := some (.st (.lst (iD (rl (eB (bT q ws)) (q.length + 1) (i : Int)))))) (x5 := some (.st (.lst (iD (rl (swapE (eB (bT q ws))) (q.length + 1) (i : Int)))))) (x6 := some (.ol [.ol [], .ol ((iD (rl (swapE (eB (bT q ws))) (q.length + 1) (i : Int))).map .st)])) (x7 := some (iO (cl (q.length + 1) (bT q ws) (i : Int)))) (x8 := none) (E := eB (bT q ws)) (n := q.length + 1) (by omega) ((bT q ws).filter fun t => decide ((i : Int) ∈ [t.1, t.2.1])) [(i : Int)] none none none a7 (by simp only [List.length_singleton]; omega)
  have b13 := fFor_eq it lp
  have so := sortSet2_i (l := [(i : Int)] ++ gath (eB (bT q ws)) (q.length + 1) (i : Int) ((bT q ws).filter fun t => decide ((i : Int) ∈ [t.1, t.2.1]))) (by rw [List.length_append, List.length_singleton]; omega) (by rw [un]; omega)
  rw [un] at so
  have py3 : OD.py (.st (.lst (iD (rl (eB (bT q ws)) (q.length + 1) (i : Int))))) = some (.list ((rl (eB (bT q ws)) (q.length + 1) (i : Int)).map .int)) := by
    have := py_iL (rl (eB (bT q ws)) (q.length + 1) (i : Int))
    rwa [valL_st] at this
  have b14 := prRe (L := lotD (sw ws)) (W := .lst (wD ws)) (Q := .str (tx q)) (I := .int (i : Int)) (x5 := some (.st (.lst (iD (rl (swapE (eB (bT q ws))) (q.length + 1) (i : Int)))))) (x6 := some (.ol [.ol [], .ol ((iD (rl (swapE (eB (bT q ws))) (q.length + 1) (i : Int))).map .st)])) (x7 := some (iO (cl (q.length + 1) (bT q ws) (i : Int)))) (x8 := none) (x10 := y10) (x11 := y11) (x12 := y12) so (eq_py (py_iO _) py3 (shaped_i _))
  rw [valL_st] at b3 b4 b5 b6 b7 b8 b9 b10
  rw [valL_st] at b7 b8 b9 b10
  have e0 : rho0 N_law_place_right [.st (lotD (sw ws)), .st (.lst (wD ws)), .st (.str (tx q)), .st (.int (i : Int))] = [some (.st (lotD (sw ws))), some (.st (.lst (wD ws))), some (.st (.str (tx q))), some (.st (.int (i : Int))), none, none, none, none, none, none, none, none, none] := rfl
  have eF : F_law_place_right = fSeq PrS1 (fSeq (PrTo m_forth_from) (fSeq (PrNe 4) (fSeq PrAp (fSeq (PrCl 1) (fSeq (PrTo m_forth_to) (fSeq (PrNe 5) (fSeq (PrCl 0) (fSeq PrOr (fSeq PrJo (fSeq PrAl (fSeq PrLa (fSeq PrLo PrRe)))))))))))) := rfl
  rw [m_law_place_right]
  refine runM_rt (B := [false, false, false, false]) (ρ' := [some (.st (lotD (sw ws))), some (.st (.lst (wD ws))), some (.st (.str (tx q))), some (.st (.int (i : Int))), some (.st (.lst (iD (rl (eB (bT q ws)) (q.length + 1) (i : Int))))), some (.st (.lst (iD (rl (swapE (eB (bT q ws))) (q.length + 1) (i : Int))))), some (.ol [.ol [], .ol ((iD (rl (swapE (eB (bT q ws))) (q.length + 1) (i : Int))).map .st)]), some (iO (cl (q.length + 1) (bT q ws) (i : Int))), none, some (iO ([(i : Int)] ++ gath (eB (bT q ws)) (q.length + 1) (i : Int) ((bT q ws).filter fun t => decide ((i : Int) ∈ [t.1, t.2.1])))), y10, y11, y12]) ?_
  rw [e0, eF, fSeq_nx b1, fSeq_nx b2, fSeq_nx b3, fSeq_nx b4, fSeq_nx b5, fSeq_nx b6, fSeq_nx b7, fSeq_nx b8, fSeq_nx b9, fSeq_nx b10, fSeq_nx b11, fSeq_nx b12]
  exact (fSeq_nx b13).trans b14
end Lw
set_option Elab.async false
set_option linter.all false
set_option maxRecDepth 100000
set_option maxHeartbeats 400000
namespace Lw
open PySem L2 Qy

noncomputable def Fr1 : Fs := (fAsg (fCall m_law_draw (fLend 0 (fCons (fBin gAdd (fE (fUn gLen (fP 2))) (fE (fC (.int 1)))) fNil)) [some 0, none]) (gN 4))
noncomputable def Fr2 : Fs := (fAsg (fCall m_forth_from (fCons (fFz (fP 1)) (fCons (fFz (fP 2)) (fCons (fFz (fP 4)) fNil))) [none, none, none]) (gN 5))
noncomputable def Fr3 : Fs := (fAsg (fCall m_law_pick (fLend 0 (fCons (fFz (fP 5)) fNil)) [some 0, none]) (gN 6))
noncomputable def Fr4 : Fs := (fIfS (fNot (fB (fUn gAll (fE (fLc [7] (fItS (fFz (fE (fCall m_forth_from (fCons (fFz (fP 1)) (fCons (fFz (fP 2)) (fCons (fFz (fP 6)) fNil))) [none, none, none])))) (gN 7) fYes (fBin gInQ (fP 7) (fP 5))))))) (fRet (fC (.bl false))) fNext)
noncomputable def Fr5 : Fs := (fIfS (fB (fBin gNotInQ (fP 4) (fE (fCall m_forth_to (fCons (fFz (fP 1)) (fCons (fFz (fP 2)) (fCons (fFz (fP 6)) fNil))) [none, none, none])))) (fRet (fC (.bl false))) fNext)
noncomputable def FrB : Fs := fSeq Fr1 (fSeq Fr2 (fSeq Fr3 (fSeq Fr4 Fr5)))
section
variable {o o1 : OD} {L Q P G : D} {x3 x4 x5 x6 x7 : Option OD}
theorem fr1 {n m : Int} (h1 : gLen (.st Q) = some (.st (.int n))) (h2 : n + 1 = m) (h3 : m_law_draw [o, .st (.int m)] = some (.st P, [some o1, none])) :
    Fr1 [some o, some (.st L), some (.st Q), x3, x4, x5, x6, x7] = some (.nx [some o1, some (.st L), some (.st Q), x3, some (.st P), x5, x6, x7]) := by
  subst h2
  simp only [runM, outsOf, fSeq, fRet, fAsg, gN, fFz, fPeek, fBack, fDrop, fBin, fUn, fC, fCons, fNil, fLend, fCall, fCallK, pick, List.filterMap_cons, List.filterMap_nil, putBack, fIfS, fB, fNot, fAnd, fOr, fAndV, fOrV, fNext, fIf, fX, fLst, fTup, fMov, fPar, gs2, gs3, gT, gsCons, gsNil, fYes, gAdd_i, gLt_i, gSub_i, gDiv_i, gMod_i, gGt_i, gLe_i, gGe_i, gInt_i, gNeg_i, gAbs_i, gMax_i, gMin_i, OD.val, valL, valL_st, fItS, fFor, fLc, wipeR, fPart, fNoPart, fSl, fAppend, fExtend, fPop, fGet2, fD1, fDNew, keyD, gSetQ, gSetI, gSetD, stK_map, fItR1, fLRg, List.getElem?_cons_succ, List.getElem?_cons_zero, List.set_cons_succ, List.set_cons_zero, List.length_cons, List.length_nil, List.map_cons, List.map_nil, Option.map_some, Option.map_none, Nat.zero_add, Nat.reduceAdd, Nat.reduceLT, Nat.reduceEqDiff, and_self, big0, big1, big2, big3, big4, big5, if_true, if_false, ite_true, ite_false, Bool.not_true, Bool.not_false, Bool.true_and, Bool.false_and,Fr1, h1, h3]
theorem fr2 {g : OD} (h1 : m_forth_from [.st L, .st Q, .st P] = some (g, [none, none, none])) :
    Fr2 [some o, some (.st L), some (.st Q), x3, some (.st P), x5, x6, x7] = some (.nx [some o, some (.st L), some (.st Q), x3, some (.st P), some g, x6, x7]) := by
  simp only [runM, outsOf, fSeq, fRet, fAsg, gN, fFz, fPeek, fBack, fDrop, fBin, fUn, fC, fCons, fNil, fLend, fCall, fCallK, pick, List.filterMap_cons, List.filterMap_nil, putBack, fIfS, fB, fNot, fAnd, fOr, fAndV, fOrV, fNext, fIf, fX, fLst, fTup, fMov, fPar, gs2, gs3, gT, gsCons, gsNil, fYes, gAdd_i, gLt_i, gSub_i, gDiv_i, gMod_i, gGt_i, gLe_i, gGe_i, gInt_i, gNeg_i, gAbs_i, gMax_i, gMin_i, OD.val, valL, valL_st, fItS, fFor, fLc, wipeR, fPart, fNoPart, fSl, fAppend, fExtend, fPop, fGet2, fD1, fDNew, keyD, gSetQ, gSetI, gSetD, stK_map, fItR1, fLRg, List.getElem?_cons_succ, List.getElem?_cons_zero, List.set_cons_succ, List.set_cons_zero, List.length_cons, List.length_nil, List.map_cons, List.map_nil, Option.map_some, Option.map_none, Nat.zero_add, Nat.reduceAdd, Nat.reduceLT, Nat.reduceEqDiff, and_self, big0, big1, big2, big3, big4, big5, if_true, if_false, ite_true, ite_false, Bool.not_true, Bool.not_false, Bool.true_and, Bool.false_and,Fr2, h1]
theorem fr3 {gs : List D} (h1 : m_law_pick [o, .st (.lst gs)] = some (.st G, [some o1, none])) :
    Fr3 [some o, some (.st L), some (.st Q), x3, x4, some (.ol (gs.map .st)), x6, x7] = some (.nx [some o1, some (.st L), some (.st Q), x3, x4, some (.st (.lst gs)), some (.st G), x7]) := by
  simp only [runM, outsOf, fSeq, fRet, fAsg, gN, fFz, fPeek, fBack, fDrop, fBin, fUn, fC, fCons, fNil, fLend, fCall, fCallK, pick, List.filterMap_cons, List.filterMap_nil, putBack, fIfS, fB, fNot, fAnd, fOr, fAndV, fOrV, fNext, fIf, fX, fLst, fTup, fMov, fPar, gs2, gs3, gT, gsCons, gsNil, fYes, gAdd_i, gLt_i, gSub_i, gDiv_i, gMod_i, gGt_i, gLe_i, gGe_i, gInt_i, gNeg_i, gAbs_i, gMax_i, gMin_i, OD.val, valL, valL_st, fItS, fFor, fLc, wipeR, fPart, fNoPart, fSl, fAppend, fExtend, fPop, fGet2, fD1, fDNew, keyD, gSetQ, gSetI, gSetD, stK_map, fItR1, fLRg, List.getElem?_cons_succ, List.getElem?_cons_zero, List.set_cons_succ, List.set_cons_zero, List.length_cons, List.length_nil, List.map_cons, List.map_nil, Option.map_some, Option.map_none, Nat.zero_add, Nat.reduceAdd, Nat.reduceLT, Nat.reduceEqDiff, and_self, big0, big1, big2, big3, big4, big5, if_true, if_false, ite_true, ite_false, Bool.not_true, Bool.not_false, Bool.true_and, Bool.false_and,Fr3, h1]
theorem fr4 {gs hs : List Int} (h1 : m_forth_from [.st L, .st Q, .st G] = some (iO hs, [none, none, none])) (hh : ∀ x ∈ hs, x ∈ gs) (hl : hs.length ≤ 1000) :
    Fr4 [some o, some (.st L), some (.st Q), x3, x4, some (.st (.lst (iD gs))), some (.st G), none] = some (.nx [some o, some (.st L), some (.st Q), x3, x4, some (.st (.lst (iD gs))), some (.st G), none]) := by
  have cp := compL_pure (own := [7]) (tg := gN 7) (tt := fYes) (te := (fBin gInQ (fP 7) (fP 5))) (ρ0 := [some o, some (.st L), some (.st Q), x3, x4, some (.st (.lst (iD gs))), some (.st G), none])
    (p := fun _ => true) (g := fun _ => .st (.bl true)) (ds := iD hs) (acc := []) (by
      intro d hd
      obtain ⟨x, hx, rfl⟩ := List.mem_map.mp hd
      have i1 := inQ_int (x := x) (xs := gs) (o := .st (.lst (iD gs))) (.inl rfl)
      rw [decide_eq_true (hh x hx)] at i1
      refine ⟨[some o, some (.st L), some (.st Q), x3, x4, some (.st (.lst (iD gs))), some (.st G), some (.st (.int x))], [some o, some (.st L), some (.st Q), x3, x4, some (.st (.lst (iD gs))), some (.st G), some (.st (.int x))], by simp [gN], rfl, (fun h => by cases h), fun _ => ⟨[some o, some (.st L), some (.st Q), x3, x4, some (.st (.lst (iD gs))), some (.st G), some (.st (.int x))], ?_, by simp [wipeR]⟩⟩
      generalize iD gs = C at *
      simp only [runM, outsOf, fSeq, fRet, fAsg, gN, fFz, fPeek, fBack, fDrop, fBin, fUn, fC, fCons, fNil, fLend, fCall, fCallK, pick, List.filterMap_cons, List.filterMap_nil, putBack, fIfS, fB, fNot, fAnd, fOr, fAndV, fOrV, fNext, fIf, fX, fLst, fTup, fMov, fPar, gs2, gs3, gT, gsCons, gsNil, fYes, gAdd_i, gLt_i, gSub_i, gDiv_i, gMod_i, gGt_i, gLe_i, gGe_i, gInt_i, gNeg_i, gAbs_i, gMax_i, gMin_i, OD.val, valL, valL_st, fItS, fFor, fLc, wipeR, fPart, fNoPart, fSl, fAppend, fExtend, fPop, fGet2, fD1, fDNew, keyD, gSetQ, gSetI, gSetD, stK_map, fItR1, fLRg, List.getElem?_cons_succ, List.getElem?_cons_zero, List.set_cons_succ, List.set_cons_zero, List.length_cons, List.length_nil, List.map_cons, List.map_nil, Option.map_some, Option.map_none, Nat.zero_add, Nat.reduceAdd, Nat.reduceLT, Nat.reduceEqDiff, and_self, big0, big1, big2, big3, big4, big5, if_true, if_false, ite_true, ite_false, Bool.not_true, Bool.not_false, Bool.true_and, Bool.false_and,i1]) (by simp [big]; omega)
  have al := trues ((iD hs).filter fun _ => true)
  rw [List.nil_append] at cp
  unfold iO at *
  generalize ((iD hs).filter fun _ => true).map (fun _ => OD.st (.bl true)) = V at *
  generalize iD gs = C at *
  simp only [runM, outsOf, fSeq, fRet, fAsg, gN, fFz, fPeek, fBack, fDrop, fBin, fUn, fC, fCons, fNil, fLend, fCall, fCallK, pick, List.filterMap_cons, List.filterMap_nil, putBack, fIfS, fB, fNot, fAnd, fOr, fAndV, fOrV, fNext, fIf, fX, fLst, fTup, fMov, fPar, gs2, gs3, gT, gsCons, gsNil, fYes, gAdd_i, gLt_i, gSub_i, gDiv_i, gMod_i, gGt_i, gLe_i, gGe_i, gInt_i, gNeg_i, gAbs_i, gMax_i, gMin_i, OD.val, valL, valL_st, fItS, fFor, fLc, wipeR, fPart, fNoPart, fSl, fAppend, fExtend, fPop, fGet2, fD1, fDNew, keyD, gSetQ, gSetI, gSetD, stK_map, fItR1, fLRg, List.getElem?_cons_succ, List.getElem?_cons_zero, List.set_cons_succ, List.set_cons_zero, List.length_cons, List.length_nil, List.map_cons, List.map_nil, Option.map_some, Option.map_none, Nat.zero_add, Nat.reduceAdd, Nat.reduceLT, Nat.reduceEqDiff, and_self, big0, big1, big2, big3, big4, big5, if_true, if_false, ite_true, ite_false, Bool.not_true, Bool.not_false, Bool.true_and, Bool.false_and,Fr4, h1, valL_st, cp, al]
theorem fr5 {s : OD} (h1 : m_forth_to [.st L, .st Q, .st G] = some (s, [none, none, none])) (h2 : gNotInQ (.st P) s = some (.st (.bl false))) :
    Fr5 [some o, some (.st L), some (.st Q), x3, some (.st P), x5, some (.st G), x7] = some (.nx [some o, some (.st L), some (.st Q), x3, some (.st P), x5, some (.st G), x7]) := by
  simp only [runM, outsOf, fSeq, fRet, fAsg, gN, fFz, fPeek, fBack, fDrop, fBin, fUn, fC, fCons, fNil, fLend, fCall, fCallK, pick, List.filterMap_cons, List.filterMap_nil, putBack, fIfS, fB, fNot, fAnd, fOr, fAndV, fOrV, fNext, fIf, fX, fLst, fTup, fMov, fPar, gs2, gs3, gT, gsCons, gsNil, fYes, gAdd_i, gLt_i, gSub_i, gDiv_i, gMod_i, gGt_i, gLe_i, gGe_i, gInt_i, gNeg_i, gAbs_i, gMax_i, gMin_i, OD.val, valL, valL_st, fItS, fFor, fLc, wipeR, fPart, fNoPart, fSl, fAppend, fExtend, fPop, fGet2, fD1, fDNew, keyD, gSetQ, gSetI, gSetD, stK_map, fItR1, fLRg, List.getElem?_cons_succ, List.getElem?_cons_zero, List.set_cons_succ, List.set_cons_zero, List.length_cons, List.length_nil, List.map_cons, List.map_nil, Option.map_some, Option.map_none, Nat.zero_add, Nat.reduceAdd, Nat.reduceLT, Nat.reduceEqDiff, and_self, big0, big1, big2, big3, big4, big5, if_true, if_false, ite_true, ite_false, Bool.not_true, Bool.not_false, Bool.true_and, Bool.false_and,Fr5, h1, h2]
end
theorem frB_ok {ws : List (List Nat)} {q : List Nat} (hq : QOk q) (hs : WOk ws) {o : OD} (hp : PotOk o) {x3 x4 x5 x6 : Option OD} : ∃ o' y4 y5 y6, FrB [some o, some (.st (lotD ws)), some (.st (.str (tx q))), x3, x4, x5, x6, none] = some (.nx [some o', some (.st (lotD ws)), some (.st (.str (tx q))), x3, y4, y5, y6, none]) ∧ PotOk o' := by
  have hql := hq.len
  obtain ⟨d, o1, e1, d0, d1, hp1⟩ := draw_ok (n := (q.length : Int) + 1) hp (by omega) (by omega)
  have e2 := forth_from_ok hq hs (i := d) (by omega) (by omega)
  have l1 := rl_len (eB (bT q ws)) (q.length + 1) d
  have md : d ∈ rl (eB (bT q ws)) (q.length + 1) d := rl_mem.mpr ⟨by omega, .here⟩
  obtain ⟨g, o2, hg, e3, hp2⟩ := pick_ok (ds := iD (rl (eB (bT q ws)) (q.length + 1) d)) hp1 (fun z => by
    rw [List.map_eq_nil_iff] at z
    rw [z] at md
    cases md) (by rw [List.length_map]; omega)
  obtain ⟨j, hj, rfl⟩ := List.mem_map.mp hg
  obtain ⟨j1, j2⟩ := rl_mem.mp hj
  have e4 := forth_from_ok hq hs (i := j) (by omega) (by omega)
  have l2 := rl_len (eB (bT q ws)) (q.length + 1) j
  have e5 := forth_to_ok hq hs (i := j) (by omega) (by omega)
  have e6 := notIn_int (x := d) (seq_iO (rl (swapE (eB (bT q ws))) (q.length + 1) j))
  rw [decide_eq_true (rl_mem.mpr ⟨by omega, swap_rch.mpr j2⟩)] at e6
  have f1 := fr1 (L := lotD ws) (x3 := x3) (x4 := x4) (x5 := x5) (x6 := x6) (x7 := none) (len_q hq.len) rfl e1
  have f2 := fr2 (o := o1) (x3 := x3) (x5 := x5) (x6 := x6) (x7 := none) e2
  have f3 := fr3 (L := lotD ws) (Q := .str (tx q)) (x3 := x3) (x4 := some (.st (.int d))) (x6 := x6) (x7 := none) e3
  have f4 := fr4 (o := o2) (x3 := x3) (x4 := some (.st (.int d))) (gs := rl (eB (bT q ws)) (q.length + 1) d) e4 (fun x hx => by
    obtain ⟨h1, h2⟩ := rl_mem.mp hx
    exact rl_mem.mpr ⟨h1, Rch.trans j2 h2⟩) (by omega)
  have f5 := fr5 (o := o2) (x3 := x3) (x5 := some (.st (.lst (iD (rl (eB (bT q ws)) (q.length + 1) d))))) (x7 := none) e5 e6
  refine ⟨o2, some (.st (.int d)), some (.st (.lst (iD (rl (eB (bT q ws)) (q.length + 1) d)))), some (.st (.int j)), ?_, hp2⟩
  unfold FrB
  rw [fSeq_nx f1, fSeq_nx f2, fSeq_nx f3, fSeq_nx f4]
  exact f5
theorem further_gen {ρ : Rho} {o : OD} {L Q : D} {o' : OD} {y3 y4 y5 y6 : Option OD} (h : loopF (gN 3) FrB (rngD 0 4) [some o, some (.st L), some (.st Q), none, none, none, none, none] = some (.nx [some o', some (.st L), some (.st Q), y3, y4, y5, y6, none])) :
    m_law_further_right [o, .st L, .st Q] = some (.st (.bl true), [some o', none, none]) := by
  have e0 : rho0 N_law_further_right [o, .st L, .st Q] = [some o, some (.st L), some (.st Q), none, none, none, none, none] := rfl
  have eF : F_law_further_right = fSeq (fFor (fItR1 (fCons (fC (.int 4)) fNil)) (gN 3) FrB) (fRet (fC (.bl true))) := rfl
  have c3 : -(2 ^ 62) ≤ (4 : Int) ∧ (4 : Int) < 2 ^ 62 := by decide
  have t3 : (4 : Int).toNat = 4 := rfl
  rw [m_law_further_right, runM, eF]
  simp only [runM, outsOf, fSeq, fRet, fAsg, gN, fFz, fPeek, fBack, fDrop, fBin, fUn, fC, fCons, fNil, fLend, fCall, fCallK, pick, List.filterMap_cons, List.filterMap_nil, putBack, fIfS, fB, fNot, fAnd, fOr, fAndV, fOrV, fNext, fIf, fX, fLst, fTup, fMov, fPar, gs2, gs3, gT, gsCons, gsNil, fYes, gAdd_i, gLt_i, gSub_i, gDiv_i, gMod_i, gGt_i, gLe_i, gGe_i, gInt_i, gNeg_i, gAbs_i, gMax_i, gMin_i, OD.val, valL, valL_st, fItS, fFor, fLc, wipeR, fPart, fNoPart, fSl, fAppend, fExtend, fPop, fGet2, fD1, fDNew, keyD, gSetQ, gSetI, gSetD, stK_map, fItR1, fLRg, List.getElem?_cons_succ, List.getElem?_cons_zero, List.set_cons_succ, List.set_cons_zero, List.length_cons, List.length_nil, List.map_cons, List.map_nil, Option.map_some, Option.map_none, Nat.zero_add, Nat.reduceAdd, Nat.reduceLT, Nat.reduceEqDiff, and_self, big0, big1, big2, big3, big4, big5, if_true, if_false, ite_true, ite_false, Bool.not_true, Bool.not_false, Bool.true_and, Bool.false_and,e0, c3, t3, h]
theorem further_ok {ws : List (List Nat)} {q : List Nat} (hq : QOk q) (hs : WOk ws) {o : OD} (hp : PotOk o) : ∃ o', m_law_further_right [o, .st (lotD ws), .st (.str (tx q))] = some (.st (.bl true), [some o', none, none]) ∧ PotOk o' := by
  have lp := loopF_inv (tg := gN 3) (body := FrB) (I := fun i ρ => ∃ o s3 s4 s5 s6, PotOk o ∧ ρ = [some o, some (.st (lotD ws)), some (.st (.str (tx q))), s3, s4, s5, s6, none])
    (ds := rngD 0 4) (i := 0) (ρ := [some o, some (.st (lotD ws)), some (.st (.str (tx q))), none, none, none, none, none]) ⟨_, _, _, _, _, hp, rfl⟩ (by
      rintro i d ρ hd ⟨o, s3, s4, s5, s6, hp, rfl⟩
      obtain ⟨o', y4, y5, y6, e, hp'⟩ := frB_ok (x3 := some (.st d)) (x4 := s4) (x5 := s5) (x6 := s6) hq hs hp
      refine ⟨[some o, some (.st (lotD ws)), some (.st (.str (tx q))), some (.st d), s4, s5, s6, none], _, ?_, e, o', _, y4, y5, y6, hp', rfl⟩
      generalize lotD ws = L
      simp only [runM, outsOf, fSeq, fRet, fAsg, gN, fFz, fPeek, fBack, fDrop, fBin, fUn, fC, fCons, fNil, fLend, fCall, fCallK, pick, List.filterMap_cons, List.filterMap_nil, putBack, fIfS, fB, fNot, fAnd, fOr, fAndV, fOrV, fNext, fIf, fX, fLst, fTup, fMov, fPar, gs2, gs3, gT, gsCons, gsNil, fYes, gAdd_i, gLt_i, gSub_i, gDiv_i, gMod_i, gGt_i, gLe_i, gGe_i, gInt_i, gNeg_i, gAbs_i, gMax_i, gMin_i, OD.val, valL, valL_st, fItS, fFor, fLc, wipeR, fPart, fNoPart, fSl, fAppend, fExtend, fPop, fGet2, fD1, fDNew, keyD, gSetQ, gSetI, gSetD, stK_map, fItR1, fLRg, List.getElem?_cons_succ, List.getElem?_cons_zero, List.set_cons_succ, List.set_cons_zero, List.length_cons, List.length_nil, List.map_cons, List.map_nil, Option.map_some, Option.map_none, Nat.zero_add, Nat.reduceAdd, Nat.reduceLT, Nat.reduceEqDiff, and_self, big0, big1, big2, big3, big4, big5, if_true, if_false, ite_true, ite_false, Bool.not_true, Bool.not_false, Bool.true_and, Bool.false_and])
  obtain ⟨ρ', e, o', s3, s4, s5, s6, hp', rfl⟩ := lp
  exact ⟨o', further_gen (ρ := []) e, hp'⟩
end Lw
set_option Elab.async false
set_option linter.all false
set_option maxRecDepth 100000
set_option maxHeartbeats 400000
namespace Lw
open PySem L2 Qy
theorem mulQ_tx {l : List Nat} {n : Nat} (h : l ≠ []) (hn : 2 ≤ n) (hn2 : n ≤ 1000) (hl : l.length ≤ 1000) : gMulQ (.st (.str (tx l))) (.st (.int (n : Int))) = some (.st (.str (tx (List.replicate n l).flatten))) := by
  have e1 : gMulI (.st (.str (tx l))) (.st (.int (n : Int))) = none := rfl
  unfold gMulQ gOr2
  rw [e1]
  simp only [gRepS]
  rw [if_pos ⟨by omega, by omega, by rw [tx_len]; exact hl⟩, mulN_tx h hn]
theorem ne_words {ws : List (List Nat)} (hw : WOk ws) : gNe (.st (.lst (wD ws))) (.ol []) = some (.st (.bl (decide (ws ≠ [])))) := by
  have := ne_wL (a := ws) (b := []) (x := .st (.lst (wD ws))) (y := .ol []) (py_wL ws) (py_wO []) hw.s (fun _ z => nomatch z)
  rw [this]
  by_cases h : ws = []
  · simp [h]
  · simp [h]
theorem empt : (.str "" : D) = .str (tx []) := by rfl
theorem ne_empty {q : List Nat} (h : Sm q) : gNe (.st (.str (tx q))) (.st (.str "")) = some (.st (.bl (decide (q ≠ [])))) := by
  rw [empt, neS h (fun c z => by cases z)]
  by_cases h : q = []
  · simp [h]
  · simp [h]
theorem picks8 {ws : List (List Nat)} {x1 x3 x4 x5 x7 : Option OD} (h0 : ws ≠ []) (hl : ws.length ≤ 10) : ∀ (ds : List D) (acc : List (List Nat)) (o : OD), PotOk o → acc.length + ds.length ≤ 100 →
    ∃ ls o', compL [6] (gN 6) fYes RtE ds [some o, x1, some (.st (.lst (wD ws))), x3, x4, x5, none, x7] ((wD acc).map .st) = some ((wD (acc ++ ls)).map .st, [some o', x1, some (.st (.lst (wD ws))), x3, x4, x5, none, x7]) ∧ ls.length = ds.length ∧ (∀ w ∈ ls, w ∈ ws) ∧ PotOk o'
  | [], acc, o, hp, _ => ⟨[], o, by simp [compL], rfl, (fun _ z => nomatch z), hp⟩
  | d :: ds, acc, o, hp, hb => by
    simp only [List.length_cons] at hb
    obtain ⟨e, o1, he, e1, hp1⟩ := pick_ok (ds := wD ws) hp (by simpa [wD] using h0) (by simp; omega)
    obtain ⟨w, hw, rfl⟩ := List.mem_map.mp he
    obtain ⟨ls, o', e2, h2, h3, hp'⟩ := picks8 (x1 := x1) (x3 := x3) (x4 := x4) (x5 := x5) (x7 := x7) h0 hl ds (acc ++ [w]) o1 hp1 (by simp; omega)
    refine ⟨w :: ls, o', ?_, by simp [h2], fun u hu => ?_, hp'⟩
    · have eg : gN 6 (.st d) [some o, x1, some (.st (.lst (wD ws))), x3, x4, x5, none, x7] = some [some o, x1, some (.st (.lst (wD ws))), x3, x4, x5, some (.st d), x7] := by simp [gN]
      have ea : (wD acc).map OD.st ++ [.st (.str (tx w))] = (wD (acc ++ [w])).map OD.st := by simp
      have et : RtE [some o, x1, some (.st (.lst (wD ws))), x3, x4, x5, some (.st d), x7] = some (.st (.str (tx w)), [some o1, x1, some (.st (.lst (wD ws))), x3, x4, x5, some (.st d), x7]) := by
        simp only [runM, outsOf, fSeq, fRet, fAsg, gN, fFz, fPeek, fBack, fDrop, fBin, fUn, fC, fCons, fNil, fLend, fCall, fCallK, pick, List.filterMap_cons, List.filterMap_nil, putBack, fIfS, fB, fNot, fAnd, fOr, fAndV, fOrV, fNext, fIf, fX, fLst, fTup, fMov, fPar, gs2, gs3, gT, gsCons, gsNil, fYes, gAdd_i, gLt_i, gSub_i, gDiv_i, gMod_i, gGt_i, gLe_i, gGe_i, gInt_i, gNeg_i, gAbs_i, gMax_i, gMin_i, OD.val, valL, valL_st, fItS, fFor, fLc, wipeR, fPart, fNoPart, fSl, fAppend, fExtend, fPop, fGet2, fD1, fDNew, keyD, gSetQ, gSetI, gSetD, stK_map, fItR1, fLRg, List.getElem?_cons_succ, List.getElem?_cons_zero, List.set_cons_succ, List.set_cons_zero, List.length_cons, List.length_nil, List.map_cons, List.map_nil, Option.map_some, Option.map_none, Nat.zero_add, Nat.reduceAdd, Nat.reduceLT, Nat.reduceEqDiff, and_self, big0, big1, big2, big3, big4, big5, if_true, if_false, ite_true, ite_false, Bool.not_true, Bool.not_false, Bool.true_and, Bool.false_and,RtE, e1]
      rw [compL_t eg (by rfl) et (by simp [big]; omega), ea]
      rw [List.append_assoc] at e2
      simp only [wipeR, List.set_cons_succ, List.set_cons_zero]
      exact e2
    · rcases List.mem_cons.mp hu with rfl | hu
      · exact hw
      · exact h3 u hu
/-! ### the whole -/
noncomputable def RtW : Fs := (fAsg (fCall m_law_word (fLend 0 (fCons (fFz (fP 1)) (fCons (fC (.int 12)) fNil))) [some 0, none, none]) (gN 5))
noncomputable def RtI1 : Fs := (fIfS (fAnd (fB (fBin gGt (fP 4) (fE (fC (.int 0))))) (fB (fBin gNe (fP 2) (fE (fLst fNil))))) (fAsg (fSl (fE (fBin gJoin (fE (fC (.str ""))) (fE (fLc [6] (fItR1 (fCons (fBin gAdd (fE (fC (.int 1))) (fE (fCall m_law_draw (fLend 0 (fCons (fC (.int 5)) fNil)) [some 0, none]))) fNil)) (gN 6) fYes RtE)))) (fPart (fCall m_law_draw (fLend 0 (fCons (fC (.int 2)) fNil)) [some 0, none])) fNoPart) (gN 5)) fNext)
noncomputable def RtI2 : Fs := (fIfS (fB (fBin gEq (fP 4) (fE (fC (.int 3))))) (fAsg (fSl (fE (fBin gAdd (fP 5) (fE (fBin gMulQ (fE (fCall m_law_word (fLend 0 (fCons (fFz (fP 1)) (fCons (fC (.int 24)) fNil))) [some 0, none, none])) (fE (fC (.int 24))))))) fNoPart (fPart (fC (.int 24)))) (gN 5)) fNext)
noncomputable def RtJ1 : Fs := (fIfS (fNot (fB (fUn gAll (fE (fLc [7] (fItR1 (fCons (fBin gAdd (fE (fUn gLen (fP 5))) (fE (fC (.int 1)))) fNil)) (gN 7) fYes (fFz (fE (fCall m_law_place_right (fCons (fFz (fP 3)) (fCons (fFz (fP 2)) (fCons (fFz (fP 5)) (fCons (fFz (fP 7)) fNil)))) [none, none, none, none])))))))) (fRet (fC (.bl false))) fNext)
noncomputable def RtJ2 : Fs := (fIfS (fNot (fB (fCall m_law_further_right (fLend 0 (fCons (fFz (fP 3)) (fCons (fFz (fP 5)) fNil))) [some 0, none, none]))) (fRet (fC (.bl false))) fNext)
noncomputable def RtJ : Fs := (fIfS (fB (fBin gNe (fP 5) (fE (fC (.str ""))))) (fSeq RtJ1 RtJ2) fNext)
noncomputable def RtB : Fs := fSeq RtW (fSeq RtI1 (fSeq RtI2 RtJ))
structure QB (q : List Nat) : Prop where
  len : q.length ≤ 24
  ab : ∀ c ∈ q, c ∈ abc
theorem QB.ok {q : List Nat} (h : QB q) (h0 : q ≠ []) : QOk q := ⟨abc_low h.ab, h0, h.len⟩
theorem gGt_i (i j : Int) : gGt (.st (.int i)) (.st (.int j)) = some (.st (.bl (decide (i > j)))) := rfl
theorem rtW_gen {o o1 : OD} {Z q : D} {x2 x3 x4 x5 x6 x7 : Option OD} (h : m_law_word [o, .st Z, .st (.int 12)] = some (.st q, [some o1, none, none])) : RtW [some o, some (.st Z), x2, x3, x4, x5, x6, x7] = some (.nx [some o1, some (.st Z), x2, x3, x4, some (.st q), x6, x7]) := by
  simp only [runM, outsOf, fSeq, fRet, fAsg, gN, fFz, fPeek, fBack, fDrop, fBin, fUn, fC, fCons, fNil, fLend, fCall, fCallK, pick, List.filterMap_cons, List.filterMap_nil, putBack, fIfS, fB, fNot, fAnd, fOr, fAndV, fOrV, fNext, fIf, fX, fLst, fTup, fMov, fPar, gs2, gs3, gT, gsCons, gsNil, fYes, gAdd_i, gLt_i, gSub_i, gDiv_i, gMod_i, gGt_i, gLe_i, gGe_i, gInt_i, gNeg_i, gAbs_i, gMax_i, gMin_i, OD.val, valL, valL_st, fItS, fFor, fLc, wipeR, fPart, fNoPart, fSl, fAppend, fExtend, fPop, fGet2, fD1, fDNew, keyD, gSetQ, gSetI, gSetD, stK_map, fItR1, fLRg, List.getElem?_cons_succ, List.getElem?_cons_zero, List.set_cons_succ, List.set_cons_zero, List.length_cons, List.length_nil, List.map_cons, List.map_nil, Option.map_some, Option.map_none, Nat.zero_add, Nat.reduceAdd, Nat.reduceLT, Nat.reduceEqDiff, and_self, big0, big1, big2, big3, big4, big5, if_true, if_false, ite_true, ite_false, Bool.not_true, Bool.not_false, Bool.true_and, Bool.false_and,RtW, h]
theorem rtI1_ok {ws : List (List Nat)} {q : List Nat} {o : OD} {x1 x3 x7 : Option OD} {j : Int} (hw : WOk ws) (hW : Words abc 3 ws) (hq : QB q) (hp : PotOk o) :
    ∃ o' q', RtI1 [some o, x1, some (.st (.lst (wD ws))), x3, some (.st (.int j)), some (.st (.str (tx q))), none, x7] = some (.nx [some o', x1, some (.st (.lst (wD ws))), x3, some (.st (.int j)), some (.st (.str (tx q'))), none, x7]) ∧ PotOk o' ∧ QB q' := by
  have e1 := gGt_i j 0
  have e2 := ne_words hw
  by_cases hj : j > 0
  · have hd : decide (j > 0) = true := by simpa using hj
    rw [hd] at e1
    by_cases h0 : ws = []
    · have hn : decide (ws ≠ []) = false := by simpa using h0
      refine ⟨o, q, ?_, hp, hq⟩
      simp only [runM, outsOf, fSeq, fRet, fAsg, gN, fFz, fPeek, fBack, fDrop, fBin, fUn, fC, fCons, fNil, fLend, fCall, fCallK, pick, List.filterMap_cons, List.filterMap_nil, putBack, fIfS, fB, fNot, fAnd, fOr, fAndV, fOrV, fNext, fIf, fX, fLst, fTup, fMov, fPar, gs2, gs3, gT, gsCons, gsNil, fYes, gAdd_i, gLt_i, gSub_i, gDiv_i, gMod_i, gGt_i, gLe_i, gGe_i, gInt_i, gNeg_i, gAbs_i, gMax_i, gMin_i, OD.val, valL, valL_st, fItS, fFor, fLc, wipeR, fPart, fNoPart, fSl, fAppend, fExtend, fPop, fGet2, fD1, fDNew, keyD, gSetQ, gSetI, gSetD, stK_map, fItR1, fLRg, List.getElem?_cons_succ, List.getElem?_cons_zero, List.set_cons_succ, List.set_cons_zero, List.length_cons, List.length_nil, List.map_cons, List.map_nil, Option.map_some, Option.map_none, Nat.zero_add, Nat.reduceAdd, Nat.reduceLT, Nat.reduceEqDiff, and_self, big0, big1, big2, big3, big4, big5, if_true, if_false, ite_true, ite_false, Bool.not_true, Bool.not_false, Bool.true_and, Bool.false_and,RtI1, e1, e2, hn]
    · have hn : decide (ws ≠ []) = true := by simpa using h0
      have hnum := hw.num
      obtain ⟨d, o1, e3, d0, d1, hp1⟩ := draw_ok (n := 5) hp (by omega) (by omega)
      obtain ⟨ls, o2, e4, h1, h2, hp2⟩ := picks8 (ws := ws) (x1 := x1) (x3 := x3) (x4 := some (.st (.int j))) (x5 := some (.st (.str (tx q)))) (x7 := x7) h0 (by omega) (rngD 0 (1 + d).toNat) [] o1 hp1 (by simp [rngD]; omega)
      have hlen : ls.length = (1 + d).toNat := by simpa [rngD] using h1
      have hfl : ls.flatten.length ≤ 15 := by
        have := flat_le (k := 3) ls fun w hw => hW.le w (h2 w hw)
        omega
      have hab : ∀ c ∈ ls.flatten, c ∈ abc := fun c hc => by
        obtain ⟨l, hl, hc⟩ := List.mem_flatten.mp hc
        exact hW.sg l (h2 l hl) c hc
      have e5 := join_ws (ls := ls) (by unfold big; omega)
      obtain ⟨k, o3, e6, k0, k1, hp3⟩ := draw_ok (n := 2) hp2 (by omega) (by omega)
      have e7 := sl_tx (w := ls.flatten) (by omega) (some k) none
      obtain ⟨v, hv, v1, v2⟩ := cut_tx ls.flatten (some k) none
      rw [hv] at e7
      have c1 : -(2 ^ 62) ≤ 1 + d ∧ 1 + d < 2 ^ 62 := by omega
      rw [List.nil_append, show wD ([] : List (List Nat)) = [] from rfl, List.map_nil] at e4
      refine ⟨o3, v, ?_, hp3, ⟨by omega, fun c hc => hab c (v2 c hc)⟩⟩
      generalize tx ls.flatten = T at *
      generalize tx v = Y at *
      generalize tx q = Z at *
      simp only [runM, outsOf, fSeq, fRet, fAsg, gN, fFz, fPeek, fBack, fDrop, fBin, fUn, fC, fCons, fNil, fLend, fCall, fCallK, pick, List.filterMap_cons, List.filterMap_nil, putBack, fIfS, fB, fNot, fAnd, fOr, fAndV, fOrV, fNext, fIf, fX, fLst, fTup, fMov, fPar, gs2, gs3, gT, gsCons, gsNil, fYes, gAdd_i, gLt_i, gSub_i, gDiv_i, gMod_i, gGt_i, gLe_i, gGe_i, gInt_i, gNeg_i, gAbs_i, gMax_i, gMin_i, OD.val, valL, valL_st, fItS, fFor, fLc, wipeR, fPart, fNoPart, fSl, fAppend, fExtend, fPop, fGet2, fD1, fDNew, keyD, gSetQ, gSetI, gSetD, stK_map, fItR1, fLRg, List.getElem?_cons_succ, List.getElem?_cons_zero, List.set_cons_succ, List.set_cons_zero, List.length_cons, List.length_nil, List.map_cons, List.map_nil, Option.map_some, Option.map_none, Nat.zero_add, Nat.reduceAdd, Nat.reduceLT, Nat.reduceEqDiff, and_self, big0, big1, big2, big3, big4, big5, if_true, if_false, ite_true, ite_false, Bool.not_true, Bool.not_false, Bool.true_and, Bool.false_and,RtI1, e1, e2, hn, e3, c1, e4, e5, e6, e7]
  · have hd : decide (j > 0) = false := by simpa using hj
    rw [hd] at e1
    refine ⟨o, q, ?_, hp, hq⟩
    simp only [runM, outsOf, fSeq, fRet, fAsg, gN, fFz, fPeek, fBack, fDrop, fBin, fUn, fC, fCons, fNil, fLend, fCall, fCallK, pick, List.filterMap_cons, List.filterMap_nil, putBack, fIfS, fB, fNot, fAnd, fOr, fAndV, fOrV, fNext, fIf, fX, fLst, fTup, fMov, fPar, gs2, gs3, gT, gsCons, gsNil, fYes, gAdd_i, gLt_i, gSub_i, gDiv_i, gMod_i, gGt_i, gLe_i, gGe_i, gInt_i, gNeg_i, gAbs_i, gMax_i, gMin_i, OD.val, valL, valL_st, fItS, fFor, fLc, wipeR, fPart, fNoPart, fSl, fAppend, fExtend, fPop, fGet2, fD1, fDNew, keyD, gSetQ, gSetI, gSetD, stK_map, fItR1, fLRg, List.getElem?_cons_succ, List.getElem?_cons_zero, List.set_cons_succ, List.set_cons_zero, List.length_cons, List.length_nil, List.map_cons, List.map_nil, Option.map_some, Option.map_none, Nat.zero_add, Nat.reduceAdd, Nat.reduceLT, Nat.reduceEqDiff, and_self, big0, big1, big2, big3, big4, big5, if_true, if_false, ite_true, ite_false, Bool.not_true, Bool.not_false, Bool.true_and, Bool.false_and,RtI1, e1]
theorem rtI2_gen {o o1 : OD} {Z q l m a r : D} {x2 x3 x6 x7 : Option OD} {j : Int} (h : gEq (.st (.int j)) (.st (.int 3)) = some (.st (.bl true))) (h1 : m_law_word [o, .st Z, .st (.int 24)] = some (.st l, [some o1, none, none])) (h2 : gMulQ (.st l) (.st (.int 24)) = some (.st m)) (h3 : gAdd (.st q) (.st m) = some (.st a)) (h4 : gSl (.st a) none (some 24) = some (.st r)) :
    RtI2 [some o, some (.st Z), x2, x3, some (.st (.int j)), some (.st q), x6, x7] = some (.nx [some o1, some (.st Z), x2, x3, some (.st (.int j)), some (.st r), x6, x7]) := by
  simp only [runM, outsOf, fSeq, fRet, fAsg, gN, fFz, fPeek, fBack, fDrop, fBin, fUn, fC, fCons, fNil, fLend, fCall, fCallK, pick, List.filterMap_cons, List.filterMap_nil, putBack, fIfS, fB, fNot, fAnd, fOr, fAndV, fOrV, fNext, fIf, fX, fLst, fTup, fMov, fPar, gs2, gs3, gT, gsCons, gsNil, fYes, gAdd_i, gLt_i, gSub_i, gDiv_i, gMod_i, gGt_i, gLe_i, gGe_i, gInt_i, gNeg_i, gAbs_i, gMax_i, gMin_i, OD.val, valL, valL_st, fItS, fFor, fLc, wipeR, fPart, fNoPart, fSl, fAppend, fExtend, fPop, fGet2, fD1, fDNew, keyD, gSetQ, gSetI, gSetD, stK_map, fItR1, fLRg, List.getElem?_cons_succ, List.getElem?_cons_zero, List.set_cons_succ, List.set_cons_zero, List.length_cons, List.length_nil, List.map_cons, List.map_nil, Option.map_some, Option.map_none, Nat.zero_add, Nat.reduceAdd, Nat.reduceLT, Nat.reduceEqDiff, and_self, big0, big1, big2, big3, big4, big5, if_true, if_false, ite_true, ite_false, Bool.not_true, Bool.not_false, Bool.true_and, Bool.false_and,RtI2, h, h1, h2, h3, h4]
theorem rtI2_ok {z : Str} {q : List Nat} {o : OD} {x2 x3 x6 x7 : Option OD} {j : Int} (hz : Sg z) (hq : QB q) (hp : PotOk o) :
    ∃ o' q', RtI2 [some o, some (.st (.str z)), x2, x3, some (.st (.int j)), some (.st (.str (tx q))), x6, x7] = some (.nx [some o', some (.st (.str z)), x2, x3, some (.st (.int j)), some (.st (.str (tx q'))), x6, x7]) ∧ PotOk o' ∧ QB q' := by
  have e1 := eqI j 3
  by_cases hj : j = 3
  · have hz2 := hz.2.1
    have hql := hq.len
    obtain ⟨l, o1, e2, hp1, h1, h2, h3⟩ := word_ok (z := z) (k := 24) hp hz.1 (by omega) (by omega) (by omega)
    have e3 := mulQ_tx (l := l) (n := 24) h1 (by omega) (by omega) (by omega)
    have hlf : (List.replicate 24 l).flatten.length ≤ 24 * 24 := by
      have := flat_le (k := 24) (List.replicate 24 l) fun w hw => by
        rw [(List.mem_replicate.mp hw).2]
        omega
      rwa [List.length_replicate] at this
    have e4 := add_tx (x := q) (y := (List.replicate 24 l).flatten) (by omega)
    have e5 := sl_tx (w := q ++ (List.replicate 24 l).flatten) (by rw [List.length_append]; omega) none (some 24)
    rw [show (some (24 : Int)) = some ((24 : Nat) : Int) from rfl, cut_pre] at e5
    rw [decide_eq_true hj] at e1
    refine ⟨o1, (q ++ (List.replicate 24 l).flatten).take 24, rtI2_gen e1 e2 e3 e4 e5, hp1, by rw [List.length_take]; omega, fun c hc => ?_⟩
    rcases List.mem_append.mp (List.mem_of_mem_take hc) with hc | hc
    · exact hq.ab c hc
    · obtain ⟨w, hw, hc⟩ := List.mem_flatten.mp hc
      rw [(List.mem_replicate.mp hw).2] at hc
      exact hz.2.2 c (h3 c hc)
  · rw [decide_eq_false hj] at e1
    refine ⟨o, q, ?_, hp, hq⟩
    generalize tx q = T at *
    simp only [runM, outsOf, fSeq, fRet, fAsg, gN, fFz, fPeek, fBack, fDrop, fBin, fUn, fC, fCons, fNil, fLend, fCall, fCallK, pick, List.filterMap_cons, List.filterMap_nil, putBack, fIfS, fB, fNot, fAnd, fOr, fAndV, fOrV, fNext, fIf, fX, fLst, fTup, fMov, fPar, gs2, gs3, gT, gsCons, gsNil, fYes, gAdd_i, gLt_i, gSub_i, gDiv_i, gMod_i, gGt_i, gLe_i, gGe_i, gInt_i, gNeg_i, gAbs_i, gMax_i, gMin_i, OD.val, valL, valL_st, fItS, fFor, fLc, wipeR, fPart, fNoPart, fSl, fAppend, fExtend, fPop, fGet2, fD1, fDNew, keyD, gSetQ, gSetI, gSetD, stK_map, fItR1, fLRg, List.getElem?_cons_succ, List.getElem?_cons_zero, List.set_cons_succ, List.set_cons_zero, List.length_cons, List.length_nil, List.map_cons, List.map_nil, Option.map_some, Option.map_none, Nat.zero_add, Nat.reduceAdd, Nat.reduceLT, Nat.reduceEqDiff, and_self, big0, big1, big2, big3, big4, big5, if_true, if_false, ite_true, ite_false, Bool.not_true, Bool.not_false, Bool.true_and, Bool.false_and,RtI2, e1]
theorem rtJ1_gen {o : OD} {W L Q : D} {x1 x4 x6 : Option OD} {n m : Int} {R : List OD} (h1 : gLen (.st Q) = some (.st (.int n))) (h2 : n + 1 = m) (c : -(2 ^ 62) ≤ m ∧ m < 2 ^ 62)
    (h3 : compL [7] (gN 7) fYes (fFz (fE (fCall m_law_place_right (fCons (fFz (fP 3)) (fCons (fFz (fP 2)) (fCons (fFz (fP 5)) (fCons (fFz (fP 7)) fNil)))) [none, none, none, none]))) (rngD 0 m.toNat) [some o, x1, some (.st W), some (.st L), x4, some (.st Q), x6, none] [] = some (R, [some o, x1, some (.st W), some (.st L), x4, some (.st Q), x6, none])) (h4 : gAll (.ol R) = some (.st (.bl true))) :
    RtJ1 [some o, x1, some (.st W), some (.st L), x4, some (.st Q), x6, none] = some (.nx [some o, x1, some (.st W), some (.st L), x4, some (.st Q), x6, none]) := by
  have a : gAdd (.st (.int n)) (.st (.int 1)) = some (.st (.int m)) := by rw [gAdd_i, h2]
  simp only [runM, outsOf, fSeq, fRet, fAsg, gN, fFz, fPeek, fBack, fDrop, fBin, fUn, fC, fCons, fNil, fLend, fCall, fCallK, pick, List.filterMap_cons, List.filterMap_nil, putBack, fIfS, fB, fNot, fAnd, fOr, fAndV, fOrV, fNext, fIf, fX, fLst, fTup, fMov, fPar, gs2, gs3, gT, gsCons, gsNil, fYes, gAdd_i, gLt_i, gSub_i, gDiv_i, gMod_i, gGt_i, gLe_i, gGe_i, gInt_i, gNeg_i, gAbs_i, gMax_i, gMin_i, OD.val, valL, valL_st, fItS, fFor, fLc, wipeR, fPart, fNoPart, fSl, fAppend, fExtend, fPop, fGet2, fD1, fDNew, keyD, gSetQ, gSetI, gSetD, stK_map, fItR1, fLRg, List.getElem?_cons_succ, List.getElem?_cons_zero, List.set_cons_succ, List.set_cons_zero, List.length_cons, List.length_nil, List.map_cons, List.map_nil, Option.map_some, Option.map_none, Nat.zero_add, Nat.reduceAdd, Nat.reduceLT, Nat.reduceEqDiff, and_self, big0, big1, big2, big3, big4, big5, if_true, if_false, ite_true, ite_false, Bool.not_true, Bool.not_false, Bool.true_and, Bool.false_and,RtJ1, h1, a, c, h3, h4]
theorem rtJ1_ok {ws : List (List Nat)} {q : List Nat} {o : OD} {x1 x4 x6 : Option OD} (hw : WOk ws) (hq : QOk q) :
    RtJ1 [some o, x1, some (.st (.lst (wD ws))), some (.st (lotD (sw ws))), x4, some (.st (.str (tx q))), x6, none] = some (.nx [some o, x1, some (.st (.lst (wD ws))), some (.st (lotD (sw ws))), x4, some (.st (.str (tx q))), x6, none]) := by
  have hql := hq.len
  have cp := compL_pure (own := [7]) (tg := gN 7) (tt := fYes) (te := (fFz (fE (fCall m_law_place_right (fCons (fFz (fP 3)) (fCons (fFz (fP 2)) (fCons (fFz (fP 5)) (fCons (fFz (fP 7)) fNil)))) [none, none, none, none])))) (ρ0 := [some o, x1, some (.st (.lst (wD ws))), some (.st (lotD (sw ws))), x4, some (.st (.str (tx q))), x6, none])
    (p := fun _ => true) (g := fun _ => .st (.bl true)) (ds := rngD 0 ((q.length : Int) + 1).toNat) (acc := []) (by
      intro d hd
      obtain ⟨j, hj, rfl⟩ := rng_mem hd
      have i1 := place_right_ok hq hw (i := j) (by omega)
      refine ⟨[some o, x1, some (.st (.lst (wD ws))), some (.st (lotD (sw ws))), x4, some (.st (.str (tx q))), x6, some (.st (.int (j : Int)))], [some o, x1, some (.st (.lst (wD ws))), some (.st (lotD (sw ws))), x4, some (.st (.str (tx q))), x6, some (.st (.int (j : Int)))], by simp [gN], rfl, (fun h => by cases h), fun _ => ⟨[some o, x1, some (.st (.lst (wD ws))), some (.st (lotD (sw ws))), x4, some (.st (.str (tx q))), x6, some (.st (.int (j : Int)))], ?_, by simp [wipeR]⟩⟩
      generalize lotD (sw ws) = L at *
      generalize wD ws = W at *
      generalize tx q = T at *
      generalize (j : Int) = J at *
      simp only [runM, outsOf, fSeq, fRet, fAsg, gN, fFz, fPeek, fBack, fDrop, fBin, fUn, fC, fCons, fNil, fLend, fCall, fCallK, pick, List.filterMap_cons, List.filterMap_nil, putBack, fIfS, fB, fNot, fAnd, fOr, fAndV, fOrV, fNext, fIf, fX, fLst, fTup, fMov, fPar, gs2, gs3, gT, gsCons, gsNil, fYes, gAdd_i, gLt_i, gSub_i, gDiv_i, gMod_i, gGt_i, gLe_i, gGe_i, gInt_i, gNeg_i, gAbs_i, gMax_i, gMin_i, OD.val, valL, valL_st, fItS, fFor, fLc, wipeR, fPart, fNoPart, fSl, fAppend, fExtend, fPop, fGet2, fD1, fDNew, keyD, gSetQ, gSetI, gSetD, stK_map, fItR1, fLRg, List.getElem?_cons_succ, List.getElem?_cons_zero, List.set_cons_succ, List.set_cons_zero, List.length_cons, List.length_nil, List.map_cons, List.map_nil, Option.map_some, Option.map_none, Nat.zero_add, Nat.reduceAdd, Nat.reduceLT, Nat.reduceEqDiff, and_self, big0, big1, big2, big3, big4, big5, if_true, if_false, ite_true, ite_false, Bool.not_true, Bool.not_false, Bool.true_and, Bool.false_and,i1]) (by simp [big, rngD]; omega)
  rw [List.nil_append] at cp
  exact rtJ1_gen (len_q hq.len) rfl (by omega) cp (trues _)
theorem rtJ2_gen {L Q : D} {o o1 : OD} {x1 x2 x4 x6 x7 : Option OD} (h1 : m_law_further_right [o, .st L, .st Q] = some (.st (.bl true), [some o1, none, none])) :
    RtJ2 [some o, x1, x2, some (.st L), x4, some (.st Q), x6, x7] = some (.nx [some o1, x1, x2, some (.st L), x4, some (.st Q), x6, x7]) := by
  simp only [runM, outsOf, fSeq, fRet, fAsg, gN, fFz, fPeek, fBack, fDrop, fBin, fUn, fC, fCons, fNil, fLend, fCall, fCallK, pick, List.filterMap_cons, List.filterMap_nil, putBack, fIfS, fB, fNot, fAnd, fOr, fAndV, fOrV, fNext, fIf, fX, fLst, fTup, fMov, fPar, gs2, gs3, gT, gsCons, gsNil, fYes, gAdd_i, gLt_i, gSub_i, gDiv_i, gMod_i, gGt_i, gLe_i, gGe_i, gInt_i, gNeg_i, gAbs_i, gMax_i, gMin_i, OD.val, valL, valL_st, fItS, fFor, fLc, wipeR, fPart, fNoPart, fSl, fAppend, fExtend, fPop, fGet2, fD1, fDNew, keyD, gSetQ, gSetI, gSetD, stK_map, fItR1, fLRg, List.getElem?_cons_succ, List.getElem?_cons_zero, List.set_cons_succ, List.set_cons_zero, List.length_cons, List.length_nil, List.map_cons, List.map_nil, Option.map_some, Option.map_none, Nat.zero_add, Nat.reduceAdd, Nat.reduceLT, Nat.reduceEqDiff, and_self, big0, big1, big2, big3, big4, big5, if_true, if_false, ite_true, ite_false, Bool.not_true, Bool.not_false, Bool.true_and, Bool.false_and,RtJ2, h1]
theorem rtJ_t {ρ ρ' : Rho} {o : OD} {Q : D} {x1 x2 x3 x4 x6 x7 : Option OD} (hρ : ρ = [some o, x1, x2, x3, x4, some (.st Q), x6, x7]) (h1 : gNe (.st Q) (.st (.str "")) = some (.st (.bl true))) (h2 : fSeq RtJ1 RtJ2 ρ = some (.nx ρ')) : RtJ ρ = some (.nx ρ') := by
  subst hρ
  unfold RtJ
  generalize fSeq RtJ1 RtJ2 = F at *
  simp only [runM, outsOf, fSeq, fRet, fAsg, gN, fFz, fPeek, fBack, fDrop, fBin, fUn, fC, fCons, fNil, fLend, fCall, fCallK, pick, List.filterMap_cons, List.filterMap_nil, putBack, fIfS, fB, fNot, fAnd, fOr, fAndV, fOrV, fNext, fIf, fX, fLst, fTup, fMov, fPar, gs2, gs3, gT, gsCons, gsNil, fYes, gAdd_i, gLt_i, gSub_i, gDiv_i, gMod_i, gGt_i, gLe_i, gGe_i, gInt_i, gNeg_i, gAbs_i, gMax_i, gMin_i, OD.val, valL, valL_st, fItS, fFor, fLc, wipeR, fPart, fNoPart, fSl, fAppend, fExtend, fPop, fGet2, fD1, fDNew, keyD, gSetQ, gSetI, gSetD, stK_map, fItR1, fLRg, List.getElem?_cons_succ, List.getElem?_cons_zero, List.set_cons_succ, List.set_cons_zero, List.length_cons, List.length_nil, List.map_cons, List.map_nil, Option.map_some, Option.map_none, Nat.zero_add, Nat.reduceAdd, Nat.reduceLT, Nat.reduceEqDiff, and_self, big0, big1, big2, big3, big4, big5, if_true, if_false, ite_true, ite_false, Bool.not_true, Bool.not_false, Bool.true_and, Bool.false_and,h1, h2]
theorem rtJ_f {ρ : Rho} {o : OD} {Q : D} {x1 x2 x3 x4 x6 x7 : Option OD} (hρ : ρ = [some o, x1, x2, x3, x4, some (.st Q), x6, x7]) (h1 : gNe (.st Q) (.st (.str "")) = some (.st (.bl false))) : RtJ ρ = some (.nx ρ) := by
  subst hρ
  unfold RtJ
  generalize fSeq RtJ1 RtJ2 = F at *
  simp only [runM, outsOf, fSeq, fRet, fAsg, gN, fFz, fPeek, fBack, fDrop, fBin, fUn, fC, fCons, fNil, fLend, fCall, fCallK, pick, List.filterMap_cons, List.filterMap_nil, putBack, fIfS, fB, fNot, fAnd, fOr, fAndV, fOrV, fNext, fIf, fX, fLst, fTup, fMov, fPar, gs2, gs3, gT, gsCons, gsNil, fYes, gAdd_i, gLt_i, gSub_i, gDiv_i, gMod_i, gGt_i, gLe_i, gGe_i, gInt_i, gNeg_i, gAbs_i, gMax_i, gMin_i, OD.val, valL, valL_st, fItS, fFor, fLc, wipeR, fPart, fNoPart, fSl, fAppend, fExtend, fPop, fGet2, fD1, fDNew, keyD, gSetQ, gSetI, gSetD, stK_map, fItR1, fLRg, List.getElem?_cons_succ, List.getElem?_cons_zero, List.set_cons_succ, List.set_cons_zero, List.length_cons, List.length_nil, List.map_cons, List.map_nil, Option.map_some, Option.map_none, Nat.zero_add, Nat.reduceAdd, Nat.reduceLT, Nat.reduceEqDiff, and_self, big0, big1, big2, big3, big4, big5, if_true, if_false, ite_true, ite_false, Bool.not_true, Bool.not_false, Bool.true_and, Bool.false_and,h1]
theorem rtB_ok {ws : List (List Nat)} {z : Str} {o : OD} {j : Int} {s5 : Option OD} (hw : WOk ws) (hW : Words abc 3 ws) (hz : Sg z) (hp : PotOk o) :
    ∃ o' s5', RtB [some o, some (.st (.str z)), some (.st (.lst (wD ws))), some (.st (lotD (sw ws))), some (.st (.int j)), s5, none, none] = some (.nx [some o', some (.st (.str z)), some (.st (.lst (wD ws))), some (.st (lotD (sw ws))), some (.st (.int j)), s5', none, none]) ∧ PotOk o' := by
  have hz2 := hz.2.1
  obtain ⟨q1, o1, e1, hp1, h1, h2, h3⟩ := word_ok (z := z) (k := 12) hp hz.1 (by omega) (by omega) (by omega)
  have hq1 : QB q1 := ⟨by omega, fun c hc => hz.2.2 c (h3 c hc)⟩
  obtain ⟨o2, q2, e2, hp2, hq2⟩ := rtI1_ok (x1 := some (.st (.str z))) (x3 := some (.st (lotD (sw ws)))) (x7 := none) (j := j) hw hW hq1 hp1
  obtain ⟨o3, q3, e3, hp3, hq3⟩ := rtI2_ok (x2 := some (.st (.lst (wD ws)))) (x3 := some (.st (lotD (sw ws)))) (x6 := none) (x7 := none) (j := j) hz hq2 hp2
  have f0 := fSeq_nx (g := fSeq RtI1 (fSeq RtI2 RtJ)) (rtW_gen (x2 := some (.st (.lst (wD ws)))) (x3 := some (.st (lotD (sw ws)))) (x4 := some (.st (.int j))) (x5 := s5) (x6 := none) (x7 := none) e1)
  have sm : Sm q3 := (abc_low hq3.ab).sm
  have n1 := ne_empty sm
  unfold RtB
  rw [f0, fSeq_nx e2, fSeq_nx e3]
  by_cases h0 : q3 = []
  · refine ⟨o3, some (.st (.str (tx q3))), rtJ_f rfl ?_, hp3⟩
    rw [n1, decide_eq_false (by simpa using h0)]
  · have hq := hq3.ok h0
    obtain ⟨o4, m4, hp4⟩ := further_ok hq (hw.perm (sw_perm ws)) hp3
    refine ⟨o4, some (.st (.str (tx q3))), rtJ_t rfl ?_ ?_, hp4⟩
    · rw [n1, decide_eq_true h0]
    · rw [fSeq_nx (rtJ1_ok hw hq)]
      exact rtJ2_gen m4
theorem right_ok {o : OD} (hp : PotOk o) : ∃ o', m_law_right [o] = some (.st (.bl true), [some o']) := by
  obtain ⟨d1, o1, hd1, e1, hp1⟩ := pick_ok (ds := [.str "a", .str "ab", .str "ab", .str "abc"]) hp (by simp) (by simp)
  obtain ⟨z, rfl, hz⟩ : ∃ z : Str, d1 = .str z ∧ Sg z := by
    simp only [List.mem_cons, List.not_mem_nil, or_false] at hd1
    rcases hd1 with rfl | rfl | rfl | rfl <;> exact ⟨_, rfl, by unfold Sg; decide +kernel⟩
  have hzz := hz.2.1
  obtain ⟨q0, o2, e2, hp2, h1, h2, h3⟩ := word_ok (z := z) (k := 9) hp1 hz.1 (by omega) (by omega) (by omega)
  obtain ⟨ws, o3, e3, hp3, hW, hwl⟩ := words_ok (q := q0) (n := 6) (k := 3) hp2 h1 (by omega) (fun c hc => hz.2.2 c (h3 c hc)) (by omega) (by omega) (by omega) (by omega)
  have hW : Words abc 3 ws := hW
  have hw : WOk ws := ⟨fun w h c hc => by
    have := hW.sg w h c hc
    simp at this
    omega, hW.ne, fun w h => by have := hW.le w h; omega, by omega⟩
  have e6 := make_ok hw hW.nd (f := (fCons (fFz (fP 2)) fNil)) (ρ := [some o3, some (.st (.str z)), some (wO ws), none, none, none, none, none]) (ρ1 := [some o3, some (.st (.str z)), some (.st (.lst (wD ws))), none, none, none, none, none]) (by simp only [runM, outsOf, fSeq, fRet, fAsg, gN, fFz, fPeek, fBack, fDrop, fBin, fUn, fC, fCons, fNil, fLend, fCall, fCallK, pick, List.filterMap_cons, List.filterMap_nil, putBack, fIfS, fB, fNot, fAnd, fOr, fAndV, fOrV, fNext, fIf, fX, fLst, fTup, fMov, fPar, gs2, gs3, gT, gsCons, gsNil, fYes, gAdd_i, gLt_i, gSub_i, gDiv_i, gMod_i, gGt_i, gLe_i, gGe_i, gInt_i, gNeg_i, gAbs_i, gMax_i, gMin_i, OD.val, valL, valL_st, fItS, fFor, fLc, wipeR, fPart, fNoPart, fSl, fAppend, fExtend, fPop, fGet2, fD1, fDNew, keyD, gSetQ, gSetI, gSetD, stK_map, fItR1, fLRg, List.getElem?_cons_succ, List.getElem?_cons_zero, List.set_cons_succ, List.set_cons_zero, List.length_cons, List.length_nil, List.map_cons, List.map_nil, Option.map_some, Option.map_none, Nat.zero_add, Nat.reduceAdd, Nat.reduceLT, Nat.reduceEqDiff, and_self, big0, big1, big2, big3, big4, big5, if_true, if_false, ite_true, ite_false, Bool.not_true, Bool.not_false, Bool.true_and, Bool.false_and])
  have lp := loopF_inv (tg := gN 4) (body := RtB) (I := fun i ρ => ∃ o s4 s5, PotOk o ∧ ρ = [some o, some (.st (.str z)), some (.st (.lst (wD ws))), some (.st (lotD (sw ws))), s4, s5, none, none])
    (ds := rngD 0 4) (i := 0) (ρ := [some o3, some (.st (.str z)), some (.st (.lst (wD ws))), some (.st (lotD (sw ws))), none, none, none, none]) ⟨_, _, _, hp3, rfl⟩ (by
      rintro i d ρ hd ⟨o, s4, s5, hp, rfl⟩
      obtain ⟨j, hj, rfl⟩ := rng_mem (List.mem_of_getElem? hd)
      obtain ⟨o', s5', e, hp'⟩ := rtB_ok (j := (j : Int)) (s5 := s5) hw hW hz hp
      exact ⟨_, _, by simp only [runM, outsOf, fSeq, fRet, fAsg, gN, fFz, fPeek, fBack, fDrop, fBin, fUn, fC, fCons, fNil, fLend, fCall, fCallK, pick, List.filterMap_cons, List.filterMap_nil, putBack, fIfS, fB, fNot, fAnd, fOr, fAndV, fOrV, fNext, fIf, fX, fLst, fTup, fMov, fPar, gs2, gs3, gT, gsCons, gsNil, fYes, gAdd_i, gLt_i, gSub_i, gDiv_i, gMod_i, gGt_i, gLe_i, gGe_i, gInt_i, gNeg_i, gAbs_i, gMax_i, gMin_i, OD.val, valL, valL_st, fItS, fFor, fLc, wipeR, fPart, fNoPart, fSl, fAppend, fExtend, fPop, fGet2, fD1, fDNew, keyD, gSetQ, gSetI, gSetD, stK_map, fItR1, fLRg, List.getElem?_cons_succ, List.getElem?_cons_zero, List.set_cons_succ, List.set_cons_zero, List.length_cons, List.length_nil, List.map_cons, List.map_nil, Option.map_some, Option.map_none, Nat.zero_add, Nat.reduceAdd, Nat.reduceLT, Nat.reduceEqDiff, and_self, big0, big1, big2, big3, big4, big5, if_true, if_false, ite_true, ite_false, Bool.not_true, Bool.not_false, Bool.true_and, Bool.false_and], e, o', _, s5', hp', rfl⟩)
  obtain ⟨ρ', e7, o5, s4, s5, hp5, rfl⟩ := lp
  have e8 := make_ok hw hW.nd (f := (fCons (fFz (fP 2)) fNil)) (ρ := [some o5, some (.st (.str z)), some (.st (.lst (wD ws))), some (.st (lotD (sw ws))), s4, s5, none, none]) (ρ1 := [some o5, some (.st (.str z)), some (.st (.lst (wD ws))), some (.st (lotD (sw ws))), s4, s5, none, none]) (by simp only [runM, outsOf, fSeq, fRet, fAsg, gN, fFz, fPeek, fBack, fDrop, fBin, fUn, fC, fCons, fNil, fLend, fCall, fCallK, pick, List.filterMap_cons, List.filterMap_nil, putBack, fIfS, fB, fNot, fAnd, fOr, fAndV, fOrV, fNext, fIf, fX, fLst, fTup, fMov, fPar, gs2, gs3, gT, gsCons, gsNil, fYes, gAdd_i, gLt_i, gSub_i, gDiv_i, gMod_i, gGt_i, gLe_i, gGe_i, gInt_i, gNeg_i, gAbs_i, gMax_i, gMin_i, OD.val, valL, valL_st, fItS, fFor, fLc, wipeR, fPart, fNoPart, fSl, fAppend, fExtend, fPop, fGet2, fD1, fDNew, keyD, gSetQ, gSetI, gSetD, stK_map, fItR1, fLRg, List.getElem?_cons_succ, List.getElem?_cons_zero, List.set_cons_succ, List.set_cons_zero, List.length_cons, List.length_nil, List.map_cons, List.map_nil, Option.map_some, Option.map_none, Nat.zero_add, Nat.reduceAdd, Nat.reduceLT, Nat.reduceEqDiff, and_self, big0, big1, big2, big3, big4, big5, if_true, if_false, ite_true, ite_false, Bool.not_true, Bool.not_false, Bool.true_and, Bool.false_and])
  have e9 := own_eq (hw.perm (sw_perm ws)) (hw.perm (sw_perm ws))
  rw [decide_eq_true rfl] at e9
  refine ⟨o5, ?_⟩
  have eF : F_law_right = (fSeq (fAsg (fCall m_law_pick (fLend 0 (fCons (fFz (fE (fLst (fCons (fC (.str "a")) (fCons (fC (.str "ab")) (fCons (fC (.str "ab")) (fCons (fC (.str "abc")) fNil))))))) fNil)) [some 0, none]) (gN 1)) (fSeq (fAsg (fCall m_law_words (fLend 0 (fCons (fFz (fE (fCall m_law_word (fLend 0 (fCons (fFz (fP 1)) (fCons (fC (.int 9)) fNil))) [some 0, none, none]))) (fCons (fC (.int 6)) (fCons (fC (.int 3)) fNil)))) [some 0, none, none, none]) (gN 2)) (fSeq (fAsg (fMake "Lot" m_Lot_init (fCons (fFz (fP 2)) fNil) [none]) (gN 3)) (fSeq (fFor (fItR1 (fCons (fC (.int 4)) fNil)) (gN 4) RtB) (fRet (fBin (gOwnEq "Lot" m_Lot_eq) (fP 3) (fE (fMake "Lot" m_Lot_init (fCons (fFz (fP 2)) fNil) [none])))))))) := rfl
  have e0 : rho0 N_law_right [o] = [some o, none, none, none, none, none, none, none] := rfl
  have c3 : -(2 ^ 62) ≤ (4 : Int) ∧ (4 : Int) < 2 ^ 62 := by decide
  have t3 : (4 : Int).toNat = 4 := rfl
  rw [m_law_right, runM, eF]
  simp only [runM, outsOf, fSeq, fRet, fAsg, gN, fFz, fPeek, fBack, fDrop, fBin, fUn, fC, fCons, fNil, fLend, fCall, fCallK, pick, List.filterMap_cons, List.filterMap_nil, putBack, fIfS, fB, fNot, fAnd, fOr, fAndV, fOrV, fNext, fIf, fX, fLst, fTup, fMov, fPar, gs2, gs3, gT, gsCons, gsNil, fYes, gAdd_i, gLt_i, gSub_i, gDiv_i, gMod_i, gGt_i, gLe_i, gGe_i, gInt_i, gNeg_i, gAbs_i, gMax_i, gMin_i, OD.val, valL, valL_st, fItS, fFor, fLc, wipeR, fPart, fNoPart, fSl, fAppend, fExtend, fPop, fGet2, fD1, fDNew, keyD, gSetQ, gSetI, gSetD, stK_map, fItR1, fLRg, List.getElem?_cons_succ, List.getElem?_cons_zero, List.set_cons_succ, List.set_cons_zero, List.length_cons, List.length_nil, List.map_cons, List.map_nil, Option.map_some, Option.map_none, Nat.zero_add, Nat.reduceAdd, Nat.reduceLT, Nat.reduceEqDiff, and_self, big0, big1, big2, big3, big4, big5, if_true, if_false, ite_true, ite_false, Bool.not_true, Bool.not_false, Bool.true_and, Bool.false_and,e0, e1, e2, e3, e6, c3, t3, e7, e8, e9]
end Lw
set_option Elab.async false
set_option linter.all false
set_option maxRecDepth 100000
set_option maxHeartbeats 400000
namespace Lw
open PySem L2 Qy
def PtR : Fs := (fRet (fLst (fCons (fBin gMax2 (fE (fC (.int 0))) (fE (fBin gSubI (fP 2) (fE (fBin gPow (fE (fC (.int 10))) (fE (fC (.int 18)))))))) (fCons (fBin gAdd (fE (fBin gMod (fE (fUn gInt (fE (fBin gAdd (fE (fBin gAdd (fE (fBin gMul (fE (fBin gMod (fE (fUn gInt (fP 2))) (fE (fC (.int 2147483587))))) (fE (fC (.int 48271))))) (fE (fBin gMul (fE (fC (.int 8053))) (fP 1))))) (fE (fC (.int 89))))))) (fE (fC (.int 2147483629))))) (fE (fC (.int 1)))) fNil))))
theorem pot_ok {ns : List Int} {k : Nat} (hk : k ≤ 10) (hl : ns.length ≤ 63) : ∃ o, m_law_pot [.st (.scr ns), .st (.int (k : Int))] = some (o, [none, none]) ∧ PotOk o := by
  have main : ∀ seed : Int, 0 ≤ seed → ∃ o, PtR [some (.st (.scr ns)), some (.st (.int (k : Int))), some (.st (.int seed))] = some (.rt o [some (.st (.scr ns)), some (.st (.int (k : Int))), some (.st (.int seed))]) ∧ PotOk o := fun seed hs => by
    have h1 : 0 ≤ seed % 2147483587 := Int.emod_nonneg _ (by omega)
    have h2 : seed % 2147483587 < 2147483587 := Int.emod_lt_of_pos _ (by omega)
    have p1 : gPow (.st (.int 10)) (.st (.int 18)) = some (.st (.int 1000000000000000000)) := by
      rw [gPow_i, if_pos ⟨by omega, by omega, by decide⟩]
      rfl
    have m1 : gMul (.st (.int 8053)) (.st (.int (k : Int))) = some (.st (.int (8053 * (k : Int)))) := by
      rw [gMul_i, if_pos (.inl (by omega))]
    have m2 : gMul (.st (.int (seed % 2147483587))) (.st (.int 48271)) = some (.st (.int (seed % 2147483587 * 48271))) := by
      rw [gMul_i, if_pos (.inl (by omega))]
    have g1 : gMod (.st (.int seed)) (.st (.int 2147483587)) = some (.st (.int (seed % 2147483587))) := by rw [gMod_i, if_pos (by omega)]
    have g2 : ∀ x : Int, gMod (.st (.int x)) (.st (.int 2147483629)) = some (.st (.int (x % 2147483629))) := fun x => by rw [gMod_i, if_pos (by omega)]
    refine ⟨pot (if seed - 1000000000000000000 > 0 then seed - 1000000000000000000 else 0) ((seed % 2147483587 * 48271 + 8053 * (k : Int) + 89) % 2147483629 + 1), ?_, _, _, rfl, by split <;> omega, ?_, ?_⟩
    · simp only [PtR, fRet, fLst, fCons, fNil, fBin, fUn, fE, fC, fP, fPeek, fBack, fDrop, List.getElem?_cons_succ, List.getElem?_cons_zero, List.set_cons_succ, List.set_cons_zero, p1, gSub_i, gMax_i, gInt_i, g1, gAdd_i, m1, m2, g2, List.length_cons, List.length_nil, Nat.zero_add, Nat.reduceAdd, big2, if_true]
    · have : 0 ≤ (seed % 2147483587 * 48271 + 8053 * (k : Int) + 89) % 2147483629 := Int.emod_nonneg _ (by omega)
      omega
    · have : (seed % 2147483587 * 48271 + 8053 * (k : Int) + 89) % 2147483629 < 2147483629 := Int.emod_lt_of_pos _ (by omega)
      omega
  have m0 : gMul (.st (.int 199)) (.st (.int (k : Int))) = some (.st (.int (199 * (k : Int)))) := by
    rw [gMul_i, if_pos (.inl (by omega))]
  have el : gLen (.st (.scr ns)) = some (.st (.int (ns.length : Int))) := rfl
  have e0 : rho0 N_law_pot [.st (.scr ns), .st (.int (k : Int))] = [some (.st (.scr ns)), some (.st (.int (k : Int))), none] := rfl
  have eF : F_law_pot = (fSeq (fAsg (fBin gAdd (fE (fBin gMul (fE (fC (.int 199))) (fP 1))) (fE (fC (.int 79)))) (gN 2)) (fSeq (fIfS (fB (fBin gLt (fP 1) (fE (fUn gLen (fP 0))))) (fAsg (fUn gAbs (fE (fBin gIx (fP 0) (fP 1)))) (gN 2)) fNext) PtR)) := rfl
  by_cases h : k < ns.length
  · have hd : decide ((k : Int) < (ns.length : Int)) = true := by simpa using h
    have ei : gIx (.st (.scr ns)) (.st (.int (k : Int))) = some (.st (.int ns[k])) := by
      show (atI ns (k : Int)).map (fun n => OD.st (.int n)) = _
      rw [atI_nat (List.getElem?_eq_getElem h)]
      rfl
    obtain ⟨o, e, hp⟩ := main (if ns[k] < 0 then -ns[k] else ns[k]) (by split <;> omega)
    refine ⟨o, ?_, hp⟩
    rw [m_law_pot, runM, eF]
    simp only [runM, outsOf, fSeq, fRet, fAsg, gN, fFz, fPeek, fBack, fDrop, fBin, fUn, fC, fCons, fNil, fLend, fCall, fCallK, pick, List.filterMap_cons, List.filterMap_nil, putBack, fIfS, fB, fNot, fAnd, fOr, fAndV, fOrV, fNext, fIf, fX, fLst, fTup, fMov, fPar, gs2, gs3, gT, gsCons, gsNil, fYes, gAdd_i, gLt_i, gSub_i, gDiv_i, gMod_i, gGt_i, gLe_i, gGe_i, gInt_i, gNeg_i, gAbs_i, gMax_i, gMin_i, OD.val, valL, valL_st, fItS, fFor, fLc, wipeR, fPart, fNoPart, fSl, fAppend, fExtend, fPop, fGet2, fD1, fDNew, keyD, gSetQ, gSetI, gSetD, stK_map, fItR1, fLRg, List.getElem?_cons_succ, List.getElem?_cons_zero, List.set_cons_succ, List.set_cons_zero, List.length_cons, List.length_nil, List.map_cons, List.map_nil, Option.map_some, Option.map_none, Nat.zero_add, Nat.reduceAdd, Nat.reduceLT, Nat.reduceEqDiff, and_self, big0, big1, big2, big3, big4, big5, if_true, if_false, ite_true, ite_false, Bool.not_true, Bool.not_false, Bool.true_and, Bool.false_and,e0, m0, el, hd, ei, e]
  · have hd : decide ((k : Int) < (ns.length : Int)) = false := by simpa using h
    obtain ⟨o, e, hp⟩ := main (199 * (k : Int) + 79) (by omega)
    refine ⟨o, ?_, hp⟩
    rw [m_law_pot, runM, eF]
    simp only [runM, outsOf, fSeq, fRet, fAsg, gN, fFz, fPeek, fBack, fDrop, fBin, fUn, fC, fCons, fNil, fLend, fCall, fCallK, pick, List.filterMap_cons, List.filterMap_nil, putBack, fIfS, fB, fNot, fAnd, fOr, fAndV, fOrV, fNext, fIf, fX, fLst, fTup, fMov, fPar, gs2, gs3, gT, gsCons, gsNil, fYes, gAdd_i, gLt_i, gSub_i, gDiv_i, gMod_i, gGt_i, gLe_i, gGe_i, gInt_i, gNeg_i, gAbs_i, gMax_i, gMin_i, OD.val, valL, valL_st, fItS, fFor, fLc, wipeR, fPart, fNoPart, fSl, fAppend, fExtend, fPop, fGet2, fD1, fDNew, keyD, gSetQ, gSetI, gSetD, stK_map, fItR1, fLRg, List.getElem?_cons_succ, List.getElem?_cons_zero, List.set_cons_succ, List.set_cons_zero, List.length_cons, List.length_nil, List.map_cons, List.map_nil, Option.map_some, Option.map_none, Nat.zero_add, Nat.reduceAdd, Nat.reduceLT, Nat.reduceEqDiff, and_self, big0, big1, big2, big3, big4, big5, if_true, if_false, ite_true, ite_false, Bool.not_true, Bool.not_false, Bool.true_and, Bool.false_and,e0, m0, el, hd, e]
theorem law_true : ∀ ns : List Int, ns.length ≤ 63 → ∃ outs, m_law [.st (.scr ns)] = some (.st (.bl true), outs) ∧ outs.length = 1 := by
  intro ns hl
  refine ⟨[none], ?_, rfl⟩
  have el : gLen (.st (.scr ns)) = some (.st (.int (ns.length : Int))) := rfl
  have e0 : rho0 N_law [.st (.scr ns)] = [some (.st (.scr ns)), none] := rfl
  obtain ⟨m, hm, hm2⟩ : ∃ m : Nat, m ≤ 3 ∧ (if (if (ns.length : Int) < (3 : Int) then (ns.length : Int) else (3 : Int)) > 1 then (if (ns.length : Int) < (3 : Int) then (ns.length : Int) else (3 : Int)) else 1) = (m : Int) := by
    refine ⟨(if (if (ns.length : Int) < (3 : Int) then (ns.length : Int) else (3 : Int)) > 1 then (if (ns.length : Int) < (3 : Int) then (ns.length : Int) else (3 : Int)) else 1).toNat, ?_, ?_⟩
    · split <;> split <;> omega
    · split <;> split <;> omega
  have c3 : -(2 ^ 62) ≤ (m : Int) ∧ (m : Int) < 2 ^ 62 := by omega
  have t3 : (m : Int).toNat = m := by omega
  have e1 := compL_pure (own := [1]) (tg := gN 1) (tt := fYes) (te := (fFz (fE (fCall m_law_right (fCons (fCall m_law_pot (fCons (fFz (fP 0)) (fCons (fFz (fP 1)) fNil)) [none, none]) fNil) [none])))) (ρ0 := [some (.st (.scr ns)), none])
    (p := fun _ => true) (g := fun _ => .st (.bl true)) (ds := rngD 0 m) (acc := []) (by
      intro d hd
      obtain ⟨k, hk, rfl⟩ := rng_mem hd
      obtain ⟨o, e2, hp⟩ := pot_ok (ns := ns) (k := k) (by omega) hl
      obtain ⟨o', e3⟩ := right_ok hp
      refine ⟨[some (.st (.scr ns)), some (.st (.int (k : Int)))], [some (.st (.scr ns)), some (.st (.int (k : Int)))], by simp [gN], rfl, (fun z => nomatch z), fun _ => ⟨[some (.st (.scr ns)), some (.st (.int (k : Int)))], ?_, by simp [wipeR]⟩⟩
      simp only [runM, outsOf, fSeq, fRet, fAsg, gN, fFz, fPeek, fBack, fDrop, fBin, fUn, fC, fCons, fNil, fLend, fCall, fCallK, pick, List.filterMap_cons, List.filterMap_nil, putBack, fIfS, fB, fNot, fAnd, fOr, fAndV, fOrV, fNext, fIf, fX, fLst, fTup, fMov, fPar, gs2, gs3, gT, gsCons, gsNil, fYes, gAdd_i, gLt_i, gSub_i, gDiv_i, gMod_i, gGt_i, gLe_i, gGe_i, gInt_i, gNeg_i, gAbs_i, gMax_i, gMin_i, OD.val, valL, valL_st, fItS, fFor, fLc, wipeR, fPart, fNoPart, fSl, fAppend, fExtend, fPop, fGet2, fD1, fDNew, keyD, gSetQ, gSetI, gSetD, stK_map, fItR1, fLRg, List.getElem?_cons_succ, List.getElem?_cons_zero, List.set_cons_succ, List.set_cons_zero, List.length_cons, List.length_nil, List.map_cons, List.map_nil, Option.map_some, Option.map_none, Nat.zero_add, Nat.reduceAdd, Nat.reduceLT, Nat.reduceEqDiff, and_self, big0, big1, big2, big3, big4, big5, if_true, if_false, ite_true, ite_false, Bool.not_true, Bool.not_false, Bool.true_and, Bool.false_and,e2, e3]) (by simp [rngD, big]; omega)
  have e1' : ((rngD 0 m).filter fun _ => true).map (fun _ => OD.st (.bl true)) = ((rngD 0 m).map fun _ => D.bl true).map .st := by
    rw [List.filter_eq_self.mpr (fun _ _ => rfl), List.map_map]
    rfl
  rw [List.nil_append, e1'] at e1
  have e4 := all_true (rngD 0 m)
  simp only [runM, outsOf, fSeq, fRet, fAsg, gN, fFz, fPeek, fBack, fDrop, fBin, fUn, fC, fCons, fNil, fLend, fCall, fCallK, pick, List.filterMap_cons, List.filterMap_nil, putBack, fIfS, fB, fNot, fAnd, fOr, fAndV, fOrV, fNext, fIf, fX, fLst, fTup, fMov, fPar, gs2, gs3, gT, gsCons, gsNil, fYes, gAdd_i, gLt_i, gSub_i, gDiv_i, gMod_i, gGt_i, gLe_i, gGe_i, gInt_i, gNeg_i, gAbs_i, gMax_i, gMin_i, OD.val, valL, valL_st, fItS, fFor, fLc, wipeR, fPart, fNoPart, fSl, fAppend, fExtend, fPop, fGet2, fD1, fDNew, keyD, gSetQ, gSetI, gSetD, stK_map, fItR1, fLRg, List.getElem?_cons_succ, List.getElem?_cons_zero, List.set_cons_succ, List.set_cons_zero, List.length_cons, List.length_nil, List.map_cons, List.map_nil, Option.map_some, Option.map_none, Nat.zero_add, Nat.reduceAdd, Nat.reduceLT, Nat.reduceEqDiff, and_self, big0, big1, big2, big3, big4, big5, if_true, if_false, ite_true, ite_false, Bool.not_true, Bool.not_false, Bool.true_and, Bool.false_and,m_law, F_law, e0, el, hm2, c3, t3, e1, e4]
end Lw
set_option Elab.async false
set_option linter.all false
set_option maxRecDepth 100000
set_option maxHeartbeats 0
namespace Lw
open PySem PySem.Spec PyProof.Rows L2 Qy ClX
def d_law_draw : He.DefD := ⟨("_law_draw", none), "_law_draw", "_law_draw", defArgs s_law_draw, defBody s_law_draw, defScope s_law_draw, [], []⟩
def d_law_pick : He.DefD := ⟨("_law_pick", none), "_law_pick", "_law_pick", defArgs s_law_pick, defBody s_law_pick, defScope s_law_pick, [], []⟩
def d_law_piece : He.DefD := ⟨("_law_piece", none), "_law_piece", "_law_piece", defArgs s_law_piece, defBody s_law_piece, defScope s_law_piece, [], []⟩
def d_law_word : He.DefD := ⟨("_law_word", none), "_law_word", "_law_word", defArgs s_law_word, defBody s_law_word, defScope s_law_word, [], []⟩
def d_law_words : He.DefD := ⟨("_law_words", none), "_law_words", "_law_words", defArgs s_law_words, defBody s_law_words, defScope s_law_words, [], []⟩
def d_is_list : He.DefD := ⟨("is_list", none), "is_list", "is_list", defArgs s_is_list, defBody s_is_list, defScope s_is_list, [], []⟩
def d_sorted_words : He.DefD := ⟨("sorted_words", none), "sorted_words", "sorted_words", defArgs s_sorted_words, defBody s_sorted_words, defScope s_sorted_words, [], []⟩
def d_is_word : He.DefD := ⟨("is_word", none), "is_word", "is_word", defArgs s_is_word, defBody s_is_word, defScope s_is_word, [], []⟩
def d_is_kept_word : He.DefD := ⟨("is_kept_word", none), "is_kept_word", "is_kept_word", defArgs s_is_kept_word, defBody s_is_kept_word, defScope s_is_kept_word, [], []⟩
def d_Lot_init : He.DefD := ⟨("Lot", some "__init__"), "__init__", "Lot.__init__", defArgs s_Lot_init, defBody s_Lot_init, defScope s_Lot_init, [.adr (He.dflAt ("Lot", some "__init__") 0)], []⟩
def d_Lot_eq : He.DefD := ⟨("Lot", some "__eq__"), "__eq__", "Lot.__eq__", defArgs s_Lot_eq, defBody s_Lot_eq, defScope s_Lot_eq, [], []⟩
def d_is_question : He.DefD := ⟨("is_question", none), "is_question", "is_question", defArgs s_is_question, defBody s_is_question, defScope s_is_question, [], []⟩
def d_want_question : He.DefD := ⟨("want_question", none), "want_question", "want_question", defArgs s_want_question, defBody s_want_question, defScope s_want_question, [], []⟩
def d_is_integer : He.DefD := ⟨("is_integer", none), "is_integer", "is_integer", defArgs s_is_integer, defBody s_is_integer, defScope s_is_integer, [], []⟩
def d_is_count : He.DefD := ⟨("is_count", none), "is_count", "is_count", defArgs s_is_count, defBody s_is_count, defScope s_is_count, [], []⟩
def d_is_place : He.DefD := ⟨("is_place", none), "is_place", "is_place", defArgs s_is_place, defBody s_is_place, defScope s_is_place, [], []⟩
def d_want_place : He.DefD := ⟨("want_place", none), "want_place", "want_place", defArgs s_want_place, defBody s_want_place, defScope s_want_place, [], []⟩
def d_spread : He.DefD := ⟨("spread", none), "spread", "spread", defArgs s_spread, defBody s_spread, defScope s_spread, [], []⟩
def d_stands_at : He.DefD := ⟨("stands_at", none), "stands_at", "stands_at", defArgs s_stands_at, defBody s_stands_at, defScope s_stands_at, [], []⟩
def d_bridges_by : He.DefD := ⟨("bridges_by", none), "bridges_by", "bridges_by", defArgs s_bridges_by, defBody s_bridges_by, defScope s_bridges_by, [], []⟩
def d_bridges_of : He.DefD := ⟨("bridges_of", none), "bridges_of", "bridges_of", defArgs s_bridges_of, defBody s_bridges_of, defScope s_bridges_of, [], []⟩
def d_forth_of : He.DefD := ⟨("forth_of", none), "forth_of", "forth_of", defArgs s_forth_of, defBody s_forth_of, defScope s_forth_of, [], []⟩
def d_forth_from : He.DefD := ⟨("forth_from", none), "forth_from", "forth_from", defArgs s_forth_from, defBody s_forth_from, defScope s_forth_from, [], []⟩
def d_forth_to : He.DefD := ⟨("forth_to", none), "forth_to", "forth_to", defArgs s_forth_to, defBody s_forth_to, defScope s_forth_to, [], []⟩
def d_law_further_right : He.DefD := ⟨("_law_further_right", none), "_law_further_right", "_law_further_right", defArgs s_law_further_right, defBody s_law_further_right, defScope s_law_further_right, [], []⟩
def d_class_by : He.DefD := ⟨("class_by", none), "class_by", "class_by", defArgs s_class_by, defBody s_class_by, defScope s_class_by, [], []⟩
def d_class_of : He.DefD := ⟨("class_of", none), "class_of", "class_of", defArgs s_class_of, defBody s_class_of, defScope s_class_of, [], []⟩
def d_joined_to : He.DefD := ⟨("joined_to", none), "joined_to", "joined_to", defArgs s_joined_to, defBody s_joined_to, defScope s_joined_to, [], []⟩
def d_bridges_at : He.DefD := ⟨("bridges_at", none), "bridges_at", "bridges_at", defArgs s_bridges_at, defBody s_bridges_at, defScope s_bridges_at, [], []⟩
def d_law_splits : He.DefD := ⟨("_law_splits", none), "_law_splits", "_law_splits", defArgs s_law_splits, defBody s_law_splits, defScope s_law_splits, [], []⟩
def d_law_goals : He.DefD := ⟨("_law_goals", none), "_law_goals", "_law_goals", defArgs s_law_goals, defBody s_law_goals, defScope s_law_goals, [], []⟩
def d_law_starts : He.DefD := ⟨("_law_starts", none), "_law_starts", "_law_starts", defArgs s_law_starts, defBody s_law_starts, defScope s_law_starts, [], []⟩
def d_law_place_right : He.DefD := ⟨("_law_place_right", none), "_law_place_right", "_law_place_right", defArgs s_law_place_right, defBody s_law_place_right, defScope s_law_place_right, [], []⟩
def d_law_right : He.DefD := ⟨("_law_right", none), "_law_right", "_law_right", defArgs s_law_right, defBody s_law_right, defScope s_law_right, [], []⟩
def d_law_pot : He.DefD := ⟨("_law_pot", none), "_law_pot", "_law_pot", defArgs s_law_pot, defBody s_law_pot, defScope s_law_pot, [], []⟩
def d_law : He.DefD := ⟨("law", none), "law", "law", defArgs s_law, defBody s_law, defScope s_law, [], []⟩
def fn : List He.DefD := [d_law_draw, d_law_pick, d_law_piece, d_law_word, d_law_words, d_is_list, d_sorted_words, d_is_word, d_is_kept_word, d_Lot_init, d_Lot_eq, d_is_question, d_want_question, d_is_integer, d_is_count, d_is_place, d_want_place, d_spread, d_stands_at, d_bridges_by, d_bridges_of, d_forth_of, d_forth_from, d_forth_to, d_law_further_right, d_class_by, d_class_of, d_joined_to, d_bridges_at, d_law_splits, d_law_goals, d_law_starts, d_law_place_right, d_law_right, d_law_pot, d_law]
def fa : List He.Fa := [.glo "_law_draw", .glo "_law_pick", .glo "_law_piece", .glo "_law_word", .glo "_law_words", .glo "is_list", .glo "sorted_words", .glo "is_word", .glo "is_kept_word", .glo "is_question", .glo "want_question", .glo "is_integer", .glo "is_count", .glo "is_place", .glo "want_place", .glo "spread", .glo "stands_at", .glo "bridges_by", .glo "bridges_of", .glo "forth_of", .glo "forth_from", .glo "forth_to", .glo "_law_further_right", .glo "class_by", .glo "class_of", .glo "joined_to", .glo "bridges_at", .glo "_law_splits", .glo "_law_goals", .glo "_law_starts", .glo "_law_place_right", .glo "_law_right", .glo "_law_pot", .glo "law", .free "abs", .free "all", .free "any", .free "bool", .free "divmod", .free "enumerate", .free "int", .free "isinstance", .free "len", .free "list", .free "max", .free "min", .free "range", .free "set", .free "sorted", .free "str", .free "tuple", .int "MOST_ASKED" 24, .str "SMALL" "abcdefghijklmnopqrstuvwxyz", .glo "Lot", .mkr "Lot", .meth "Lot" "__init__", .meth "Lot" "__eq__", .cls "Lot", .noat "Lot" "own_words"]
def exL (K : PySem.W.Frag) : List Bool := [PySem.W.readsIn K (He.ga K "Lot") (.type "type"), He.eqO (PySem.W.specialIn K (.ref (He.ga K "Lot")) "__getattribute__") (some (some (.builtin "type.__getattribute__"))), cvB K (He.ga K "Lot") "MOST_LETTERS" 12, cvB K (He.ga K "Lot") "MOST_WORDS" 10, insB K "Lot"]
def exB (K : PySem.W.Frag) : Bool := (exL K).all id
theorem ex_at {K : PySem.W.Frag} (h : exB K = true) (i : Nat) {b : Bool} (e : (exL K)[i]? = some b) : b = true := by
  have := List.all_eq_true.mp h b (List.mem_of_getElem? e)
  simpa using this
def loose0 : List PySem.Str := ["_wall", "__name__", "WalkError", "InvalidWord", "InvalidLot", "InvalidPlace", "InvalidWords", "MissingError", "UnknownWord", "LimitError", "TooMany", "SMALL", "MOST_ASKED", "is_integer", "is_count", "is_list", "is_word", "is_question", "want_question", "sorted_words", "stands_at", "is_place", "want_place", "bridges_by", "bridges_of", "bridges_at", "spread", "class_by", "class_of", "joined_to"]
def loose1 : List PySem.Str := ["forth_of", "forth_from", "forth_to", "is_kept_word", "want_lot", "Lot", "_law_pot", "_law_draw", "_law_pick", "_law_word", "_law_piece", "_law_words", "_law_splits", "_law_goals", "_law_starts", "_law_place_right", "_law_further_right", "_law_right"]
abbrev loose : List PySem.Str := loose0 ++ loose1
abbrev R : PySem.W.OpenRow := PySem.W.OpenLaw.row PySem.Challenge.rw_walksback_k16_whole_places_come_to_forth
abbrev hk : PySem.W.Hook := hookQ 5 fa fn exB
def ob (s : PySem.W.SharedT) : AlQ := obsQ 5 fa fn exB (HandSHeadRun.getT s)
theorem ob_eq (s : PySem.W.SharedT) : ob s = hk.obs s.abs := obsQ_eq (HandSHeadRun.getT_eq s)
theorem run (w : World) : HandSHeadRun.RunEq R (PySem.W.view R.prog [52]) hk ob 8000 loose w := by
  intro os
  kernel_rfl
theorem facts {P : Program} {w : World} {K : PySem.W.Frag} {h : Heap} {mg : Str → Option Value} {f : Addr} (X : K.In h) (G : h.Ns mainGlobals mg) (hfa : mg ("law" : Str) = some (.ref f)) (c : He.SaysD fa fn K) (xx : exB K = true) :
    ∃ fd : FuncData, (∀ (s : Shared) (v : Value), BindsTo s fd ⟨[v], []⟩ [("_law_script", v)]) ∧ ∀ base : Heap, K.In base → base.Ns mainGlobals mg → FnG P w K mg base CX0 8 f fd ["_law_script"] (spM K 1 m_law) := by
  have E : Env K mg := { n_abs := He.free_ok X G (c.fact 34 (f := .free "abs") rfl), n_all := He.free_ok X G (c.fact 35 (f := .free "all") rfl), n_any := He.free_ok X G (c.fact 36 (f := .free "any") rfl), n_bool := He.free_ok X G (c.fact 37 (f := .free "bool") rfl), n_divmod := He.free_ok X G (c.fact 38 (f := .free "divmod") rfl), n_enumerate := He.free_ok X G (c.fact 39 (f := .free "enumerate") rfl), n_int := He.free_ok X G (c.fact 40 (f := .free "int") rfl), n_isinstance := He.free_ok X G (c.fact 41 (f := .free "isinstance") rfl), n_len := He.free_ok X G (c.fact 42 (f := .free "len") rfl), n_list := He.free_ok X G (c.fact 43 (f := .free "list") rfl), n_max := He.free_ok X G (c.fact 44 (f := .free "max") rfl), n_min := He.free_ok X G (c.fact 45 (f := .free "min") rfl), n_range := He.free_ok X G (c.fact 46 (f := .free "range") rfl), n_set := He.free_ok X G (c.fact 47 (f := .free "set") rfl), n_sorted := He.free_ok X G (c.fact 48 (f := .free "sorted") rfl), n_str := He.free_ok X G (c.fact 49 (f := .free "str") rfl), n_tuple := He.free_ok X G (c.fact 50 (f := .free "tuple") rfl), c_MOST_ASKED := He.int_ok X G (c.fact 51 (f := .int "MOST_ASKED" 24) rfl), c_SMALL := He.str_ok X G (c.fact 52 (f := .str "SMALL" "abcdefghijklmnopqrstuvwxyz") rfl), cls_Lot := He.cls_ok (c.fact 57 (f := .cls "Lot") rfl), cr_Lot := ⟨ex_at xx 0 rfl, He.eqO_ok (ex_at xx 1 rfl)⟩, cv_Lot_MOST_LETTERS := cvB_ok (ex_at xx 2 rfl), cv_Lot_MOST_WORDS := cvB_ok (ex_at xx 3 rfl), isi_Lot := insB_ok (He.cls_ok (c.fact 57 (f := .cls "Lot") rfl)) (ex_at xx 4 rfl), mk_Lot := ⟨He.glo_ok X G (c.fact 53 (f := .glo "Lot") rfl), (He.mkr_ok (c.fact 54 (f := .mkr "Lot") rfl)).makes, (He.mkr_ok (c.fact 54 (f := .mkr "Lot") rfl)).kp⟩, na_Lot_own_words := He.noat_ok (c.fact 58 (f := .noat "Lot" "own_words") rfl) }
  obtain ⟨fd_law_draw, F_law_draw⟩ := c.def_ 0 (d := d_law_draw) rfl
  obtain ⟨fd_law_pick, F_law_pick⟩ := c.def_ 1 (d := d_law_pick) rfl
  obtain ⟨fd_law_piece, F_law_piece⟩ := c.def_ 2 (d := d_law_piece) rfl
  obtain ⟨fd_law_word, F_law_word⟩ := c.def_ 3 (d := d_law_word) rfl
  obtain ⟨fd_law_words, F_law_words⟩ := c.def_ 4 (d := d_law_words) rfl
  obtain ⟨fd_is_list, F_is_list⟩ := c.def_ 5 (d := d_is_list) rfl
  obtain ⟨fd_sorted_words, F_sorted_words⟩ := c.def_ 6 (d := d_sorted_words) rfl
  obtain ⟨fd_is_word, F_is_word⟩ := c.def_ 7 (d := d_is_word) rfl
  obtain ⟨fd_is_kept_word, F_is_kept_word⟩ := c.def_ 8 (d := d_is_kept_word) rfl
  obtain ⟨fd_Lot_init, F_Lot_init⟩ := c.def_ 9 (d := d_Lot_init) rfl
  obtain ⟨fd_Lot_eq, F_Lot_eq⟩ := c.def_ 10 (d := d_Lot_eq) rfl
  obtain ⟨fd_is_question, F_is_question⟩ := c.def_ 11 (d := d_is_question) rfl
  obtain ⟨fd_want_question, F_want_question⟩ := c.def_ 12 (d := d_want_question) rfl
  obtain ⟨fd_is_integer, F_is_integer⟩ := c.def_ 13 (d := d_is_integer) rfl
  obtain ⟨fd_is_count, F_is_count⟩ := c.def_ 14 (d := d_is_count) rfl
  obtain ⟨fd_is_place, F_is_place⟩ := c.def_ 15 (d := d_is_place) rfl
  obtain ⟨fd_want_place, F_want_place⟩ := c.def_ 16 (d := d_want_place) rfl
  obtain ⟨fd_spread, F_spread⟩ := c.def_ 17 (d := d_spread) rfl
  obtain ⟨fd_stands_at, F_stands_at⟩ := c.def_ 18 (d := d_stands_at) rfl
  obtain ⟨fd_bridges_by, F_bridges_by⟩ := c.def_ 19 (d := d_bridges_by) rfl
  obtain ⟨fd_bridges_of, F_bridges_of⟩ := c.def_ 20 (d := d_bridges_of) rfl
  obtain ⟨fd_forth_of, F_forth_of⟩ := c.def_ 21 (d := d_forth_of) rfl
  obtain ⟨fd_forth_from, F_forth_from⟩ := c.def_ 22 (d := d_forth_from) rfl
  obtain ⟨fd_forth_to, F_forth_to⟩ := c.def_ 23 (d := d_forth_to) rfl
  obtain ⟨fd_law_further_right, F_law_further_right⟩ := c.def_ 24 (d := d_law_further_right) rfl
  obtain ⟨fd_class_by, F_class_by⟩ := c.def_ 25 (d := d_class_by) rfl
  obtain ⟨fd_class_of, F_class_of⟩ := c.def_ 26 (d := d_class_of) rfl
  obtain ⟨fd_joined_to, F_joined_to⟩ := c.def_ 27 (d := d_joined_to) rfl
  obtain ⟨fd_bridges_at, F_bridges_at⟩ := c.def_ 28 (d := d_bridges_at) rfl
  obtain ⟨fd_law_splits, F_law_splits⟩ := c.def_ 29 (d := d_law_splits) rfl
  obtain ⟨fd_law_goals, F_law_goals⟩ := c.def_ 30 (d := d_law_goals) rfl
  obtain ⟨fd_law_starts, F_law_starts⟩ := c.def_ 31 (d := d_law_starts) rfl
  obtain ⟨fd_law_place_right, F_law_place_right⟩ := c.def_ 32 (d := d_law_place_right) rfl
  obtain ⟨fd_law_right, F_law_right⟩ := c.def_ 33 (d := d_law_right) rfl
  obtain ⟨fd_law_pot, F_law_pot⟩ := c.def_ 34 (d := d_law_pot) rfl
  obtain ⟨fd_law, F_law⟩ := c.def_ 35 (d := d_law) rfl
  have e := hfa.symm.trans (He.glo_ok X G (c.fact 33 (f := .glo "law") rfl))
  cases e
  have b := FunD.bindsA (ps := ["_law_script"]) F_law fun _ _ _ _ _ _ us hl => match us, hl with | [_], _ => rfl
  refine ⟨fd_law, fun s v => b s [v] rfl, fun base _ _ => ?_⟩
  have c_law_draw := ok_law_draw (P := P) (w := w) (base := base) E  (He.glo_ok X G (c.fact 0 (f := .glo "_law_draw") rfl)) F_law_draw
  have c_law_pick := ok_law_pick (P := P) (w := w) (base := base) E c_law_draw (He.glo_ok X G (c.fact 1 (f := .glo "_law_pick") rfl)) F_law_pick
  have c_law_piece := ok_law_piece (P := P) (w := w) (base := base) E c_law_draw (He.glo_ok X G (c.fact 2 (f := .glo "_law_piece") rfl)) F_law_piece
  have c_law_word := ok_law_word (P := P) (w := w) (base := base) E c_law_draw c_law_pick (He.glo_ok X G (c.fact 3 (f := .glo "_law_word") rfl)) F_law_word
  have c_law_words := ok_law_words (P := P) (w := w) (base := base) E c_law_draw c_law_word c_law_piece (He.glo_ok X G (c.fact 4 (f := .glo "_law_words") rfl)) F_law_words
  have c_is_list := ok_is_list (P := P) (w := w) (base := base) E  (He.glo_ok X G (c.fact 5 (f := .glo "is_list") rfl)) F_is_list
  have c_sorted_words := ok_sorted_words (P := P) (w := w) (base := base) E  (He.glo_ok X G (c.fact 6 (f := .glo "sorted_words") rfl)) F_sorted_words
  have c_is_word := ok_is_word (P := P) (w := w) (base := base) E  (He.glo_ok X G (c.fact 7 (f := .glo "is_word") rfl)) F_is_word
  have c_is_kept_word := ok_is_kept_word (P := P) (w := w) (base := base) E c_is_word (He.glo_ok X G (c.fact 8 (f := .glo "is_kept_word") rfl)) F_is_kept_word
  obtain ⟨ds_Lot_init, v_Lot_init, b_Lot_init⟩ := FunD.binds1 (ps := ["self", "words"]) F_Lot_init 2 1 (by simp [He.DefD.dvs, d_Lot_init]) rfl (fun _ _ _ _ _ _ _ us its h1 h2 => match us, its, h1, h2 with | [_, _], [_], _, _ => ⟨_, rfl, rfl⟩)
  cases v_Lot_init
  have M_Lot_init := He.meth_ok (c.fact 55 (f := .meth "Lot" "__init__") rfl)
  have c_Lot_init := ok_Lot_init (P := P) (w := w) (base := base) E c_sorted_words c_is_kept_word c_is_list M_Lot_init.at_ M_Lot_init.fn M_Lot_init.kp b_Lot_init F_Lot_init
  have b_Lot_eq := FunD.bindsN (ps := ["self", "other"]) F_Lot_eq fun _ _ _ _ _ _ us hl => match us, hl with | [_, _], _ => rfl
  have M_Lot_eq := He.meth_ok (c.fact 56 (f := .meth "Lot" "__eq__") rfl)
  have c_Lot_eq := ok_Lot_eq (P := P) (w := w) (base := base) E  M_Lot_eq.at_ M_Lot_eq.fn M_Lot_eq.kp b_Lot_eq F_Lot_eq
  have c_is_question := ok_is_question (P := P) (w := w) (base := base) E c_is_word (He.glo_ok X G (c.fact 9 (f := .glo "is_question") rfl)) F_is_question
  have c_want_question := ok_want_question (P := P) (w := w) (base := base) E c_is_question (He.glo_ok X G (c.fact 10 (f := .glo "want_question") rfl)) F_want_question
  have c_is_integer := ok_is_integer (P := P) (w := w) (base := base) E  (He.glo_ok X G (c.fact 11 (f := .glo "is_integer") rfl)) F_is_integer
  have c_is_count := ok_is_count (P := P) (w := w) (base := base) E c_is_integer (He.glo_ok X G (c.fact 12 (f := .glo "is_count") rfl)) F_is_count
  have c_is_place := ok_is_place (P := P) (w := w) (base := base) E c_is_count (He.glo_ok X G (c.fact 13 (f := .glo "is_place") rfl)) F_is_place
  have c_want_place := ok_want_place (P := P) (w := w) (base := base) E c_is_place (He.glo_ok X G (c.fact 14 (f := .glo "want_place") rfl)) F_want_place
  have c_spread := ok_spread (P := P) (w := w) (base := base) E  (He.glo_ok X G (c.fact 15 (f := .glo "spread") rfl)) F_spread
  have c_stands_at := ok_stands_at (P := P) (w := w) (base := base) E  (He.glo_ok X G (c.fact 16 (f := .glo "stands_at") rfl)) F_stands_at
  have c_bridges_by := ok_bridges_by (P := P) (w := w) (base := base) E c_stands_at (He.glo_ok X G (c.fact 17 (f := .glo "bridges_by") rfl)) F_bridges_by
  have c_bridges_of := ok_bridges_of (P := P) (w := w) (base := base) E c_bridges_by (He.glo_ok X G (c.fact 18 (f := .glo "bridges_of") rfl)) F_bridges_of
  have c_forth_of := ok_forth_of (P := P) (w := w) (base := base) E c_spread c_bridges_of (He.glo_ok X G (c.fact 19 (f := .glo "forth_of") rfl)) F_forth_of
  have c_forth_from := ok_forth_from (P := P) (w := w) (base := base) E c_forth_of c_want_place c_want_question (He.glo_ok X G (c.fact 20 (f := .glo "forth_from") rfl)) F_forth_from
  have c_forth_to := ok_forth_to (P := P) (w := w) (base := base) E c_spread c_bridges_of c_want_place c_want_question (He.glo_ok X G (c.fact 21 (f := .glo "forth_to") rfl)) F_forth_to
  have c_law_further_right := ok_law_further_right (P := P) (w := w) (base := base) E c_forth_to c_forth_from c_law_pick c_law_draw (He.glo_ok X G (c.fact 22 (f := .glo "_law_further_right") rfl)) F_law_further_right
  have c_class_by := ok_class_by (P := P) (w := w) (base := base) E c_spread (He.glo_ok X G (c.fact 23 (f := .glo "class_by") rfl)) F_class_by
  have c_class_of := ok_class_of (P := P) (w := w) (base := base) E c_class_by c_bridges_of (He.glo_ok X G (c.fact 24 (f := .glo "class_of") rfl)) F_class_of
  have c_joined_to := ok_joined_to (P := P) (w := w) (base := base) E c_class_of c_want_place c_want_question (He.glo_ok X G (c.fact 25 (f := .glo "joined_to") rfl)) F_joined_to
  have c_bridges_at := ok_bridges_at (P := P) (w := w) (base := base) E c_bridges_of c_want_place c_want_question (He.glo_ok X G (c.fact 26 (f := .glo "bridges_at") rfl)) F_bridges_at
  have c_law_splits := ok_law_splits (P := P) (w := w) (base := base) E  (He.glo_ok X G (c.fact 27 (f := .glo "_law_splits") rfl)) F_law_splits
  have c_law_goals := ok_law_goals (P := P) (w := w) (base := base) E c_law_splits (He.glo_ok X G (c.fact 28 (f := .glo "_law_goals") rfl)) F_law_goals
  have c_law_starts := ok_law_starts (P := P) (w := w) (base := base) E c_law_splits (He.glo_ok X G (c.fact 29 (f := .glo "_law_starts") rfl)) F_law_starts
  have c_law_place_right := ok_law_place_right (P := P) (w := w) (base := base) E c_bridges_at c_forth_from c_joined_to c_forth_to c_law_starts c_law_goals (He.glo_ok X G (c.fact 30 (f := .glo "_law_place_right") rfl)) F_law_place_right
  have c_law_right := ok_law_right (P := P) (w := w) (base := base) E c_Lot_eq c_Lot_init c_law_further_right c_law_place_right c_law_word c_law_draw c_law_pick c_law_words (He.glo_ok X G (c.fact 31 (f := .glo "_law_right") rfl)) F_law_right
  have c_law_pot := ok_law_pot (P := P) (w := w) (base := base) E  (He.glo_ok X G (c.fact 32 (f := .glo "_law_pot") rfl)) F_law_pot
  have c_law := ok_law (P := P) (w := w) (base := base) E c_law_right c_law_pot (He.glo_ok X G (c.fact 33 (f := .glo "law") rfl)) F_law
  obtain ⟨f2, fd2, hm2, F2, ok2⟩ := c_law.ex
  have e1 := (He.glo_ok X G (c.fact 33 (f := .glo "law") rfl)).symm.trans hm2
  cases e1
  have e2 : fd_law = fd2 := funD_fd F_law F2
  subst e2
  exact ok2
end Lw
set_option Elab.async false
set_option linter.all false
set_option maxRecDepth 100000
set_option maxHeartbeats 0

open PySem PySem.W PySem.Calls PyProof.Rows
theorem PySem.Challenge.cw_walksback_k16_whole_places_come_to_forth_holds : PySem.Challenge.rw_walksback_k16_whole_places_come_to_forth.Holds := by
  w_on; o_law
  refine HandSHeadRun.head_any (r := OpenLaw.row PySem.Challenge.rw_walksback_k16_whole_places_come_to_forth) (q := view (OpenLaw.row PySem.Challenge.rw_walksback_k16_whole_places_come_to_forth).prog [52]) (H := Lw.hk) (ob := Lw.ob) (M := 8000) (loose := Lw.loose) (d := HandSHeadRun.topDef (OpenLaw.row PySem.Challenge.rw_walksback_k16_whole_places_come_to_forth).prog 52) (kwd := []) Lw.ob_eq
    (by kernel_rfl) (fun s => by kernel_rfl) Lw.run (by kernel_rfl) (by kernel_rfl) (by kernel_rfl) (by rfl) (by first | assumption | decide +kernel) (by decide +kernel) ⟨rfl, rfl, rfl, rfl, rfl, by decide +kernel⟩ ?hw ?hc
  case hw => w_witness2
  case hc =>
    refine Qy.walk_ofG (l := PySem.Challenge.rw_walksback_k16_whole_places_come_to_forth) (n := 63) (k := 8) (x := "_law_script") (m := Lw.m_law) rfl (by decide) (by kernel_rfl) ⟨rfl, by decide, by decide⟩ ?F Lw.law_true
    intro w mg fa h Y G hmg0
    obtain ⟨K, KX, c, xx⟩ := Y
    have hmg : mg ("law" : PySem.Str) = some (.ref fa) := by
      have e : (HandSHeadRun.topDef (OpenLaw.row PySem.Challenge.rw_walksback_k16_whole_places_come_to_forth).prog 52).name = ("law" : PySem.Str) := by kernel_rfl
      rw [← e]
      exact hmg0
    obtain ⟨fd, hb, hF⟩ := Lw.facts (P := (PySem.Challenge.rw_walksback_k16_whole_places_come_to_forth).prog) (w := w) KX G hmg c xx
    exact ⟨K, fd, KX, hb, hF⟩
